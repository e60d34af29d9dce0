import PyProof.Rows.All
import Wide.All
import OpenK.AllK
import Wide.FinOn
import KE.KExcSuper
import HandS.ForExc
import HandS.ExcInit
import HandS.ForMost
import HandS.Deep
import HandS.IsInst
import HandS.Conv
import HandS.SortInts
import HandS.Defaults
import HandS.HeadHook2
import HandS.WordsExc
import HandS.Set
import HandS.SetFor
import HandS.Strs
import HandS.Style
import HandS.ExcOwn
import HandS.ExcField
import HandS.ExcIs
import HandS.Words
import KE.KStateDown
import HandS.Head0
import HandS.Head1
import HandS.Head2
import HandS.HeadEnd
import HandS.HeadHook1
import PySem.Challenge.RW_ringfolk_k27_plans_and_bills
/-! Xi -/
set_option Elab.async false
set_option linter.all false
set_option maxRecDepth 100000
set_option maxHeartbeats 2000000
namespace Xi
open PySem PySem.W PySem.Calls PyProof.Rows

/-- what the written part says of the __init__ of an own error class below an own base: super().__init__(text) -/
structure LowI (P : Program) (K : Frag) (C fI : Addr) (fd : FuncData) : Prop where
  cls : ∃ nm q N bs bm sn sub ab col dd k0 k1 k2 k3 k5, K.lookup C = some (excClassObj nm q C N bs bm true sn sub ab col dd k0 k1 k2 k3 k5 "ValueError.__new__") ∧ HandSPX.refsVE bm = true
  fn : ∃ oc od osl, K.lookup fI = some ⟨oc, od, .func fd, osl⟩
  code : codeIn K fd.code fd.qualname = true
  clo : ∃ cc cl cld csl, fd.closure = [(("__class__" : Str), cc)] ∧ K.lookup cc = some ⟨cl, cld, .cell (some (.ref C)), csl⟩
  glo : fd.globals = mainGlobals
  blt : fd.builtins = builtinsNs
  file : ∃ cda ccl cdd vs ccs file tf, fd.code = .ref cda ∧ K.lookup cda = some ⟨ccl, cdd, .fields vs, ccs⟩ ∧ vs[2]? = some (.str file tf) ∧ ((P.main.file : Str) == file) = true
  top : (P.main.scope.names.lookup ("super" : Str)).isSome = false
  sup : nsIn K mainGlobals "super" = some none
  opq : nsIn K cStatics "thirdparty.any" = some none
  mro : mroIn K C (.ref C) = some true
  sin : ks_superIn K C C "__init__" = some (some (.builtin "ValueError.__init__"))
  sub : subIn K (.ref C) (.type "ValueError") = some true
  exi : excInitIn K C HandSPX.veTail "ValueError.__new__" = true
  kind : fd.scope.kind = .function
  co : fd.scope.isCoroutine = false
  gen : fd.scope.isGenerator = false
  noc : ∀ x ∈ fd.scope.names, x.2 ≠ .cell
  ks : fd.scope.names.lookup ("super" : Str) = some .globalImplicit
  kc : fd.scope.names.lookup ("__class__" : Str) = some .free
  kself : fd.scope.names.lookup ("self" : Str) = some .local
  ar : ∃ ar, (fd.params.posonlyargs ++ fd.params.args).head? = some ar ∧ ar.arg = "self"

theorem super_call {o : Expr} {msg name : Str} {j : Nat} {p2 p3 p4 : Pos} {env : Env} (hpos : (p2.endLine == p4.line) = true) :
    eval (.Call (.Attribute o name p2) [.Constant (.str msg) j p3] [] p4) env = (do
      let ov ← attributeBase o name env (eval o env)
      standAt p2.atName
      let (f, first) ← holding [ov] (getMethod ov name (do return (← importBound o env).getD true))
      callWith p4 f first (backTo p4 (starEach [.Constant (.str msg) j p3] env)) []) := by
  show (do let ov ← attributeBase o name env (eval o env); standAt p2.atName; methodCall o name p2 p4 env ov 1 (backTo p4 (starEach [.Constant (.str msg) j p3] env)) []) = _
  have hp : ∀ few : Bool, methodCallPos few o env p2 p4 = pure p4 := fun few => by
    unfold methodCallPos
    rw [hpos, Bool.or_true]
    rfl
  unfold methodCall
  simp only [hp, pure_bind]
  rfl
section
variable {P : Program} {w : World} {K : Frag} {C fI e t0 : Addr} {fd : FuncData}
theorem super_stmt (T : LowI P K C fI fd) {A : Around} {body : List Stmt} {msg : Str} {j : Nat} {p0 p1 p2 p3 p4 p5 : Pos} {L : Addr} {m mg mb : Str → Option Value} {h : Heap} {g : Array GenState} {d : Drawn} {tk : Nat} {os : OsState} {Q : Flow → Shared → Prop} {E : Value → Shared → Prop}
    (hpos : (p2.endLine == p4.line) = true) (X : K.In h) (G : h.Ns mainGlobals mg) (B : h.Ns builtinsNs mb) (hb : ∀ x : Str, x ≠ "__name__" → mb x = bootBuiltins x) (hn : h.Ns L m) (hs : m "self" = some (.ref e)) (he : h.get? e = some (HandSPX.excO C t0))
    (hq : ∀ h' t1 tk', (∀ b o, b ≠ e → h.get? b = some o → h'.get? b = some o) → h'.get? e = some (HandSPX.excO C t1) → Q .next ⟨h', g, d, tk', os⟩) :
    _root_.PySem.wpAt (model P w) A (.func body (callEnv fd L fI)) (exec (.Expr (.Call (.Attribute (.Call (.Name "super" p0) [] [] p1) "__init__" p2) [.Constant (.str msg) j p3] [] p4) p5) (callEnv fd L fI)) Q E ⟨h, g, d, tk, os⟩ := by
  obtain ⟨cc, cl, cld, csl, ecl, hcc⟩ := T.clo
  obtain ⟨oc, od, osl, hf⟩ := T.fn
  obtain ⟨cda, ccl, cdd, vs, ccs, file, tf, ecd, hcd, hvs, hfile⟩ := T.file
  obtain ⟨ar, har, earg⟩ := T.ar
  obtain ⟨nm, q, N, bs, bm, sn, sub, ab, col, dd, k0, k1', k2, k3, k5, hC, hbm⟩ := T.cls
  obtain ⟨cdC, hcC⟩ : ∃ cd, clsIn K C = some cd := by unfold clsIn; rw [hC]; exact ⟨_, rfl⟩
  obtain ⟨oD, hD1, hD2⟩ : ∃ oD, h.get? C = some oD ∧ oD.data = .cls cdC := by
    unfold clsIn at hcC
    split at hcC
    · rename_i c' d' cd' sl ho
      cases hcC
      exact ⟨_, X _ _ ho, rfl⟩
    · cases hcC
  have I : InstAt h e (HandSPX.excO C t0) C none := ⟨he, rfl, rfl, trivial⟩
  have hk : (callEnv fd L fI).scope.kind = .function := T.kind
  have hks : (callEnv fd L fI).kindOf "super" = some .globalImplicit := T.ks
  have hkc : (callEnv fd L fI).kindOf "__class__" = some .free := T.kc
  have hka : (callEnv fd L fI).kindOf "self" = some .local := T.kself
  have hgl : (callEnv fd L fI).globals = mainGlobals := T.glo
  have hbl : (callEnv fd L fI).builtins = builtinsNs := T.blt
  have hcell : (callEnv fd L fI).cells.lookup ("__class__" : Str) = some cc := by
    show fd.closure.lookup _ = _
    rw [ecl]
    rfl
  refine ks_wpAt_Expr_any ?_ (by simp [interactive, hk]) rfl
  refine ks_wpAt_MethodCall ?_ (super_call hpos)
  refine ks_wpAt_super_base (f := fI) (cc := cda) hks hkc (by decide) rfl (X _ _ hf) rfl har ecd (X _ _ hcd) rfl hvs hfile T.top ?_
  refine ks_loadName_global hk hks (loadGlobal_builtin (by rw [hgl]; exact G) (mg_none_of X G T.sup) (by rw [hbl]; exact B) ((hb _ (by decide +kernel)).trans (by first | boot_by_name | rfl | kernel_rfl)) ⟨rfl, ?_⟩)
  refine wpAny_loadName_free hk hkc hcell ⟨_, X _ _ hcc, rfl⟩ ?_
  rw [earg]
  refine wpAny_loadName_local hk hka hn hs ?_
  refine ks_wpAny_isType_cls hD1 hD2 ⟨rfl, ?_⟩
  refine ks_wpAny_call_super hD1 hD2 he rfl (fun c z => by cases z) (looks_mroIn X T.mro) (fun h1 hso k1 => ?_)
  have X1 : K.In h1 := X.keeps k1
  have he1 := k1 _ _ he
  have I1 : InstAt h1 e (HandSPX.excO C t0) C none := ⟨he1, rfl, rfl, trivial⟩
  have hm := T.sin
  unfold ks_superIn at hm
  rw [hcC] at hm
  refine kxs_getMethod kxs_ValueError hso (looks_opaque X1 T.opq) (l₀ := cdC.mro) (fun A Q E s k q => wpAny_bind ((looks_clsIn X1 hcC) A _ E s k (wpAny_pure q))) rfl X1 hm (I1.type.andThen (looks_subIn X1 T.sub)) (ks_ne X1 I1 hcC) (by decide) ?_
  refine kxs_callWith (i := "ValueError.__init__") (x := e) rfl (evalArgs_plain (spliced_cons (Constant_str (k := j) (pos := p3) (spliced_nil ⟨Heap.get?_push_at rfl rfl, ?_⟩))))
  have hCX : ∀ {hh : Heap}, K.In hh → hh.get? C = some (excClassObj nm q C N bs bm true sn sub ab col dd k0 k1' k2 k3 k5 "ValueError.__new__") := fun X => X _ _ hC
  refine wpAny_call (codeAny_of_tree (?_ : wpAny _ A.in1 (callAny (.ref _) ⟨_, []⟩) _ _ _))
  have hu : (h1.push (kxs_mw "ValueError.__init__" e)).get? h1.objs.size = some (kxs_mw "ValueError.__init__" e) := Heap.get?_push_at rfl rfl
  have he2 : (h1.push (kxs_mw "ValueError.__init__" e)).get? e = some (HandSPX.excO C t0) := Heap.get?_push_of_some _ he1
  have X2 : K.In (h1.push (kxs_mw "ValueError.__init__" e)) := X1.keeps fun b o z => Heap.get?_push_of_some _ z
  simp only [callAny]
  refine wpAny_bind (wpAny_load hu ?_); simp only [kxs_mw, show (Value.type "method-wrapper" == Value.type "method" || Value.type "method-wrapper" == Value.type "builtin_function_or_method" || Value.type "method-wrapper" == Value.type "method-wrapper") = true from by decide, if_true]
  refine KFB.if_so (by decide) (wpAny_bind (check_bound_init F.excBase_ValueError.toExcCallFacts (hCX X2) he2 rfl ?_))
  refine wpAny_bind (wpAny_pure (wpAny_pure ⟨plainId_quiet F.excBase_ValueError.init.plain _, codeAny_builtin F.excBase_ValueError.initEntry ?_⟩))
  rw [Around.under_plainId F.excBase_ValueError.init.plain _]
  refine exc_init_tree (cls := .ref C) (t0 := t0) (dv := none) (c2 := .none) (c3 := .none) (b4 := .bool false) he2 (by rw [sizeLine_eq]; show 1 ≤ _; omega) fun h' k e' t' => hq h' _ _ (fun b o hb z => k b o hb (Heap.get?_push_of_some _ (k1 _ _ z))) e'

/-- the fields that are stored: one, two -/
theorem low_init {f1 a1 msg : Str} {j : Nat} {p0 p1 p2 p3 p4 p5 q0 q1 q2 q3 : Pos} (T : LowI P K C fI fd) (hbody : fd.body = .stmts [.Expr (.Call (.Attribute (.Call (.Name "super" p0) [] [] p1) "__init__" p2) [.Constant (.str msg) j p3] [] p4) p5, .Assign [.Attribute (.Name "self" q0) f1 q1] (.Name a1 q2) q3])
    (hpos : (p2.endLine == p4.line) = true) (ka : fd.scope.names.lookup a1 = some .local) (hsa : a1 ≠ "self") (hd : (a1 == ("__debug__" : Str)) = false) (sa : findIn K (.ref C) "__setattr__" = some (some (.builtin "object.__setattr__"))) (hf1 : findIn K (.ref C) f1 = some none)
    {A : Around} {u : Value} {mg mb : Str → Option Value} {h : Heap} {g : Array GenState} {d : Drawn} {tk : Nat} {os : OsState} {R : Result → Shared → Prop}
    (hKe : ∀ o, K.lookup e ≠ some o) (hroom : A.depth < recursionLimit) (hbind : ∀ s, BindsTo s fd ⟨[.ref e, u], []⟩ [("self", .ref e), (a1, u)]) (lim : h.NoLimit)
    (X : K.In h) (G : h.Ns mainGlobals mg) (B : h.Ns builtinsNs mb) (hb : ∀ x : Str, x ≠ "__name__" → mb x = bootBuiltins x) (he : h.get? e = some (HandSPX.excO C t0))
    (hq : ∀ h' t1 dx tk', (∀ b o, b ≠ e → h.get? b = some o → h'.get? b = some o) → h.objs.size ≤ dx → dx ≠ e → h'.get? e = some { cls := .ref C, dict := some dx, data := .fields #[.ref t1, .none, .none, .none, .bool false, .none] } →
      h'.Ns1 dx (fun y => if y = f1 then some u else none) → R (.ok (.ret .none)) ⟨h', g, d, tk', os⟩) :
    codeAny (model P w) A (.call (.ref fI) ⟨[.ref e, u], []⟩) R ⟨h, g, d, tk, os⟩ := by
  obtain ⟨oc, od, osl, hf⟩ := T.fn
  obtain ⟨nm, q, N, bs, bm, sn, sub, ab, col, dd, k0, k1', k2, k3, k5, hC, hbm⟩ := T.cls
  have hcl : clsIn K C = some { name := nm, bases := bs, mro := .ref C :: bm, ns := N, qualname := q, hasDict := true, slotNames := sn, subclasses := sub, abstract := ab, collection := col, hasDel := false } := by unfold clsIn; rw [hC] <;> rfl
  have hloc : ∀ x ∈ [(("self" : Str), Value.ref e), (a1, u)], fd.scope.names.lookup x.1 = some .local := by
    intro x hx
    rcases List.mem_cons.mp hx with rfl | hx
    · exact T.kself
    · rcases List.mem_cons.mp hx with rfl | hx
      · exact ka
      · cases hx
  refine ks_codeAny_call_defAt hroom (X _ _ hf) rfl lim (codeRec_of X T.code) hbody (hbind _) T.noc hloc (fun h0 hn0 k0' => ?_) T.co T.gen T.kind
  have X0 : K.In h0 := X.keeps k0'
  have he0 := k0' _ _ he
  have hns : (fun x => [(("self" : Str), Value.ref e), (a1, u)].reverse.lookup x) ("self" : Str) = some (.ref e) := by
    show List.lookup ("self" : Str) [(a1, u), (("self" : Str), Value.ref e)] = _
    have hne : (("self" : Str) == a1) = false := by simpa using (Ne.symm hsa)
    simp [List.lookup, hne]
  have hna : (fun x => [(("self" : Str), Value.ref e), (a1, u)].reverse.lookup x) a1 = some u := by
    show List.lookup a1 [(a1, u), (("self" : Str), Value.ref e)] = _
    simp [List.lookup]
  have hLe : h.objs.size ≠ e := fun z => by
    have y := Heap.lt_size he
    rw [← z] at y
    exact absurd y (Nat.lt_irrefl _)
  refine ks_wpAt_execs_cons (super_stmt T hpos X0 (G.keeps k0') (B.keeps k0') hb hn0 hns he0 fun h2 t1 tk2 k2' he2 => ?_)
  have kk : ∀ b o, b ≠ e → h.get? b = some o → h2.get? b = some o := fun b o hb z => k2' b o hb (k0' b o z)
  have X2 : K.In h2 := fun b o z => kk b o (fun y => hKe o (by rw [← y]; exact z)) (X _ _ z)
  have hn2 : h2.Ns h.objs.size (fun x => [(("self" : Str), Value.ref e), (a1, u)].reverse.lookup x) := hn0.at fun o z => k2' _ o hLe z
  have hk : (callEnv fd h.objs.size fI).scope.kind = .function := T.kind
  refine ks_wpAt_execs_cons (_root_.PySem.wpAt_of_wpAny (plainObj_wpAny_Assign_Attribute (wpAny_Name (wpAny_loadName_local hk (show (callEnv fd h.objs.size fI).kindOf a1 = some .local from ka) hn2 hna (wpAny_Name (wpAny_loadName_local hk (show (callEnv fd h.objs.size fI).kindOf "self" = some .local from T.kself) hn2 hns ?_) (by decide))) hd) rfl))
  refine set_plain X2 (ox := HandSPX.excO C t1) (od := none) ⟨he2, rfl, rfl, trivial⟩ sa (HandSPX.exc_osa X2 he2 hcl (show HandSPX.refsVE (.ref C :: bm) = true from hbm) rfl hf1 fun h3 tk3 dx k3' dn dne hx hnx => ?_)
  refine _root_.PySem.wpAt_of_wpAny (wpAny_execs_nil (hq h3 t1 dx tk3 (fun b o hb z => k3' b o hb (kk b o hb z)) ?_ dne hx hnx))
  cases z : h2.get? h.objs.size with
  | none =>
    obtain ⟨o, es, ep, ho, _⟩ := hn2
    rw [z] at ho
    cases ho
  | some o => exact Nat.le_of_lt (Nat.lt_of_lt_of_le (Heap.lt_size z) dn)
end
end Xi

namespace Xi
open PySem PySem.Spec L2
/-- what the written part says of such a class with one field -/
structure Low1 (P : Program) (K : PySem.W.Frag) (C fI : Addr) (fd : FuncData) (f1 a1 : Str) : Prop where
  low : LowI P K C fI fd
  body : ∃ (msg : Str) (j : Nat) (p0 p1 p2 p3 p4 p5 q0 q1 q2 q3 : Pos), fd.body = .stmts [.Expr (.Call (.Attribute (.Call (.Name "super" p0) [] [] p1) "__init__" p2) [.Constant (.str msg) j p3] [] p4) p5, .Assign [.Attribute (.Name "self" q0) f1 q1] (.Name a1 q2) q3] ∧ (p2.endLine == p4.line) = true
  ka : fd.scope.names.lookup a1 = some .local
  hsa : a1 ≠ "self"
  hd : (a1 == ("__debug__" : Str)) = false
  sa : PySem.W.findIn K (.ref C) "__setattr__" = some (some (.builtin "object.__setattr__"))
  hf : PySem.W.findIn K (.ref C) f1 = some none
  bind : ∀ (s : Shared) (a b : Value), BindsTo s fd ⟨[a, b], []⟩ [("self", a), (a1, b)]
  init : PySem.W.findIn K (.ref C) "__init__" = some (some (.ref fI))
  tI : PySem.W.typeIn K (.ref fI) = some (.type "function")
  exC : PySem.W.subIn K (.ref C) (.type "BaseException") = some true
  tyC : PySem.W.typeIn K (.ref C) = some (.type "type")
  kC : PySem.W.keepIn K (.ref C) = true
section
variable {X : Cx} {e : Expr} {te : TE} {f1 a1 x : Str} {p pos : Pos} {C fI : Addr} {fd : FuncData}
/-- the new error as it stands behind its __init__ -/
theorem un_low {fs : List Addr} {H : Hp} {hp h3 : Heap} {a dx t1 : Addr} {f : Str} {y : V} {u : Value} {P : Program} {w : World} (hok : HOk P w H hp) (ea : H a = some (exo a C none)) (k : ∀ b o, b ≠ a → hp.get? b = some o → h3.get? b = some o)
    (dn : hp.objs.size ≤ dx) (dne : dx ≠ a) (hx : h3.get? a = some { cls := .ref C, dict := some dx, data := .fields #[.ref t1, .none, .none, .none, .bool false, .none] }) (hn : h3.Ns1 dx (fun z => if z = f then some u else none)) (ry : RelV y u) :
    Un fs [] H (upd (upd H dx (exd dx [(f, y)])) a (exo a C (some dx))) hp h3 ∧ HOk P w (upd (upd H dx (exd dx [(f, y)])) a (exo a C (some dx))) h3 := by
  have hnd : H dx = none := hok.fresh dn
  have nd : ∀ {b : Addr} {o : Obj}, hp.get? b = some o → b ≠ dx := fun q => Nat.ne_of_lt (Nat.lt_of_lt_of_le (Heap.lt_size q) dn)
  have na : ∀ {b : Addr}, H b = none → b ≠ a := fun n z => by rw [z, ea] at n; cases n
  refine ⟨⟨fun b o q n _ _ => k b o (na n) q, fun b o q n _ _ => ⟨o.slots, k b o (na n) q⟩, fun b o q n _ => by rw [upd_ne (na n), upd_ne (nd q)]; exact n, fun b o q _ => ?_, fun b xs q => ?_, fun b o v q => ?_, fun b ps q => ?_⟩, fun b o q => ?_⟩
  · rcases Decidable.em (b = a) with hb | hb
    · exact ⟨_, by rw [hb]; exact hx⟩
    · exact ⟨o, k b o hb q⟩
  · rw [upd_ne (at_ne ea q exo_tup), upd_ne (ne_of_none q hnd)]; exact q
  · rw [upd_ne (at_ne ea q exo_frz), upd_ne (ne_of_none q hnd)]; exact q
  · exact ⟨#[], by rw [upd_ne (at_ne ea q exo_tbl), upd_ne (ne_of_none q hnd), q]; simp⟩
  · rcases Decidable.em (b = a) with hb | hb
    · subst hb
      rw [upd_same] at q; cases q
      exact exo_ok hx
    · rw [upd_ne hb] at q
      rcases Decidable.em (b = dx) with hd | hd
      · subst hd
        rw [upd_same] at q; cases q
        exact exd_ok hn (relO_put (fs := []) ry fun _ => trivial)
      · rw [upd_ne hd] at q
        refine (hok b o q).stay (fun c v hc z => k c v ?_ z) (fun c hc => ?_) (fun c xs hc => ?_)
        · rcases hc with hc | hc
          · rw [hc]; exact hb
          · exact at_ne ea hc exo_own
        · rw [upd_ne (at_ne ea hc exo_own), upd_ne (ne_of_none hc hnd)]; exact hc
        · rw [upd_ne (at_ne ea hc exo_tup), upd_ne (ne_of_none hc hnd)]; exact hc
def tLow (C : Addr) (f1 : Str) (ta : TA) : L2.St → Hp → XK → Prop := fun σ H Q => ta σ H fun vs H1 => ∃ v, vs = [v] ∧ ∀ d, H1 d = none → Q (.ref C) (some d) (upd H1 d (.xd [(f1, v)]))
theorem pmk_low {k : Nat} {ta : TA} (T : Low1 X.prog X.K C fI fd f1 a1) (hr : Room (k + 1) X.A) (hg : Gl X x) (hm : X.mg x = some (.ref C)) (ha : PA X [e] ta) (hdb : (x == ("__debug__" : Str)) = false := by decide)
    (he : starEach [e] X.env = (false, eval e X.env) :: starEach [] X.env := by rfl) (hpl : (backTo pos (starEach [] X.env)).any (·.1) = false := by rfl) : PMk X (.Call (.Name x p) [e] [] pos) (tLow C f1 ta) := by
  intro pins s σ H Q I h
  obtain ⟨nm, q, N, bs, bm, sn, sub, ab, col, dd, k0, k1, k2, k3, k5, hC, hbm⟩ := T.low.cls
  obtain ⟨msg, j, p0, p1, p2, p3, p4, p5, q0, q1, q2, q3, hbd, hpos⟩ := T.body
  refine wpAny_Call_Name_kw (ld_glob I hg hm ?_ hdb)
  refine PySem.W.callWith_K (h₀ := X.base) I.ok.mod.kin T.kC (thn (ha.run pos pins s σ H _ I h) fun us s1 ⟨vs, H1, I1, r1, v, ev, hq⟩ => ⟨I1.kIn, ?_⟩) he hpl
  subst ev
  obtain ⟨u, rfl, rv⟩ : ∃ u, us = [u] ∧ RelV v u := by
    cases r1 with
    | cons ra rb => cases rb; exact ⟨_, rfl, ra⟩
  obtain ⟨mb, B, hb⟩ := I1.mod.blt
  obtain ⟨hp, g, dr, tk, os⟩ := s1
  have hsz : hp.objs.size ≤ hp.objs.size + 1 := Nat.le_succ _
  have kk : ∀ b o, hp.get? b = some o → ((hp.push (PySem.W.kdv_tup [u])).push (HandSPX.excO C hp.objs.size)).get? b = some o := fun b o z => Heap.get?_push_of_some _ (Heap.get?_push_of_some _ z)
  have hget : ((hp.push (PySem.W.kdv_tup [u])).push (HandSPX.excO C hp.objs.size)).get? (hp.objs.size + 1) = some (HandSPX.excO C hp.objs.size) := by heap_get
  have I2 : Inv X pins σ (upd H1 (hp.objs.size + 1) (exo (hp.objs.size + 1) C none)) ⟨(hp.push (PySem.W.kdv_tup [u])).push (HandSPX.excO C hp.objs.size), g, dr, tk, os⟩ := I1.laid (t' := tk) kk hsz (exo_ok hget)
  have hne : hp.get? (hp.objs.size + 1) = none := by
    cases z : hp.get? (hp.objs.size + 1) with
    | none => rfl
    | some o => exact absurd (Heap.lt_size z) (Nat.not_lt.mpr hsz)
  have hn : H1 (hp.objs.size + 1) = none := I1.hok.fresh hsz
  refine wpAny_call (HandSPX.call_own F.excBase_ValueError (fun Y => HandSPX.refsVE_contains Y bm hbm) (I1.kIn _ _ hC) (PySem.W.looks_findIn I1.kIn T.init) (fun self => PySem.W.bind_fn I1.kIn self T.tI) (by rw [sizeLine_eq]; show 1 ≤ _; omega)
    (low_init T.low hbd hpos T.ka T.hsa T.hd T.sa T.hf (fun o z => ?_) (hr.make C [u] []).depth (fun s => T.bind s _ _) I2.nolimit I2.kIn (I2.mod.glob.keeps I2.bk) (B.keeps I2.bk) hb hget (fun h' t1 dx tk' k' dn dne hx hnx => ?_)))
  · have z' := I1.kIn _ _ z
    rw [hne] at z'; cases z'
  · have hsz2 : hp.objs.size ≤ ((hp.push (PySem.W.kdv_tup [u])).push (HandSPX.excO C hp.objs.size)).objs.size := Nat.le_of_lt (Nat.lt_of_le_of_lt hsz (Heap.lt_size hget))
    obtain ⟨un, hok⟩ := un_low (fs := frs X.stack) I2.hok upd_same k' dn dne hx hnx rv
    have h1d : H1 dx = none := I1.hok.fresh (Nat.le_trans hsz2 dn)
    have fin := mk_end (Q := Q) (g2 := g) (d2 := dr) (t2 := tk') (os2 := os) (fs := [(f1, v)]) (raises_own T.exC T.tyC) I1 hsz kk un hok rfl I2.bare upd_same (by rw [upd_ne dne, upd_same]) h1d
    refine ⟨rfl, fin ?_⟩
    have e1 : upd (del (upd (upd (upd H1 (hp.objs.size + 1) (exo (hp.objs.size + 1) C none)) dx (exd dx [(f1, v)])) (hp.objs.size + 1) (exo (hp.objs.size + 1) C (some dx))) (hp.objs.size + 1)) dx (.xd [(f1, v)]) = upd H1 dx (.xd [(f1, v)]) := by
      funext b
      rcases Decidable.em (b = dx) with hb | hb
      · rw [hb, upd_same, upd_same]
      · rw [upd_ne hb, upd_ne hb]
        rcases Decidable.em (b = hp.objs.size + 1) with hc | hc
        · rw [hc, del_same, hn]
        · rw [del_ne hc, upd_ne hc, upd_ne hb, upd_ne hc]
    rw [e1]
    exact hq dx h1d
end
end Xi

/-! Dl -/
set_option Elab.async false
set_option linter.all false
set_option maxRecDepth 100000
set_option maxHeartbeats 2000000
namespace Dl
open PySem PySem.Spec L2
abbrev Fg := PySem.W.Frag
/-- what may be changed in place -/
def isM : HO → Bool
  | .tup _ => false
  | .frz _ _ => false
  | .tbl _ => false
  | .xd _ => false
  | .rng _ _ => false
  | .ext _ => false
  | _ => true
theorem pmap {α β : Type} {F G : α → β → Prop} : ∀ {l : List α} {m : List β}, Paired F l m → (∀ a b, F a b → G a b) → Paired G l m
  | _, _, .nil, _ => .nil
  | _, _, .cons q t, k => .cons (k _ _ q) (pmap t k)
/-! ### readings of values as data -/
structure Rl (α : Type) where
  r : Fg → Hp → V → α → Prop
  f : Fg → Hp → Hp → V → α → Prop
  mono : ∀ {K : Fg} {B B' : Hp} {v : V} {a : α}, Same B B' → r K B v a → r K B' v a
  fr : ∀ {K : Fg} {H B : Hp} {v : V} {a : α}, f K H B v a → r K B v a
  ftr : ∀ {K : Fg} {H B B2 : Hp} {v : V} {x : α}, (∀ a o, B a = some o → (isM o = false ∨ H a = none) → B2 a = some o) → f K H B v x → f K H B2 v x
  fanti : ∀ {K : Fg} {H H0 B : Hp} {v : V} {x : α}, (∀ a, H0 a ≠ none → H a ≠ none) → f K H B v x → f K H0 B v x
def Imm {α : Type} (R : Rl α) : Prop := ∀ (K : Fg) (H B : Hp) (v : V) (x : α), R.r K B v x → R.f K H B v x
def flat {α : Type} (g : V → α → Prop) : Rl α := ⟨fun _ _ v a => g v a, fun _ _ _ v a => g v a, fun _ h => h, fun h => h, fun _ h => h, fun _ h => h⟩
theorem imm_flat {α : Type} (g : V → α → Prop) : Imm (flat g) := fun _ _ _ _ _ h => h
def rInt : Rl Int := flat fun v i => v = .int i
def rBool : Rl Bool := flat fun v b => v = .bl b
def rUnit : Rl Unit := flat fun v _ => v = .non
def rStr : Rl Str := flat fun v s => v = .str s
theorem sqt_mono {K : Fg} {B B' : Hp} {p : Addr} {vs : List V} (h : ∀ u, (∃ xs, u = HO.tup xs) ∨ (∃ o w, u = HO.frz o w) → B p = some u → B' p = some u) (q : SqT K B p vs) : SqT K B' p vs := by
  rcases q with (q | ⟨o, q⟩) | q
  · exact .inl (.inl (h _ (.inl ⟨_, rfl⟩) q))
  · exact .inl (.inr ⟨o, h _ (.inr ⟨_, _, rfl⟩) q⟩)
  · exact .inr q
theorem sqt_same {K : Fg} {B B' : Hp} {p : Addr} {vs : List V} (e : Same B B') (q : SqT K B p vs) : SqT K B' p vs := sqt_mono (fun _ _ h => e _ _ h) q
theorem sqt_tr {K : Fg} {H B B2 : Hp} {p : Addr} {vs : List V} (e : ∀ a o, B a = some o → (isM o = false ∨ H a = none) → B2 a = some o) (q : SqT K B p vs) : SqT K B2 p vs := by
  refine sqt_mono (fun u hu h => e _ _ h (.inl ?_)) q
  rcases hu with ⟨xs, rfl⟩ | ⟨o, w, rfl⟩ <;> rfl
/-- a tuple of any length, all of one kind -/
def rTpl {α : Type} (R : Rl α) : Rl (List α) where
  r K B v xs := ∃ p vs, v = .ref p ∧ SqT K B p vs ∧ Paired (R.r K B) vs xs
  f K H B v xs := ∃ p vs, v = .ref p ∧ SqT K B p vs ∧ Paired (R.f K H B) vs xs
  mono e h := let ⟨p, vs, a, b, c⟩ := h; ⟨p, vs, a, sqt_same e b, pmap c fun _ _ q => R.mono e q⟩
  fr h := let ⟨p, vs, a, b, c⟩ := h; ⟨p, vs, a, b, pmap c fun _ _ q => R.fr q⟩
  ftr e h := let ⟨p, vs, a, b, c⟩ := h; ⟨p, vs, a, sqt_tr e b, pmap c fun _ _ q => R.ftr e q⟩
  fanti e h := let ⟨p, vs, a, b, c⟩ := h; ⟨p, vs, a, b, pmap c fun _ _ q => R.fanti e q⟩
def rLst {α : Type} (R : Rl α) : Rl (List α) where
  r K B v xs := ∃ p vs, v = .ref p ∧ B p = some (.lst vs) ∧ Paired (R.r K B) vs xs
  f K H B v xs := ∃ p vs, v = .ref p ∧ H p = none ∧ B p = some (.lst vs) ∧ Paired (R.f K H B) vs xs
  mono e h := let ⟨p, vs, a, b, c⟩ := h; ⟨p, vs, a, e _ _ b, pmap c fun _ _ q => R.mono e q⟩
  fr h := let ⟨p, vs, a, _, b, c⟩ := h; ⟨p, vs, a, b, pmap c fun _ _ q => R.fr q⟩
  ftr e h := let ⟨p, vs, a, n, b, c⟩ := h; ⟨p, vs, a, n, e _ _ b (.inr n), pmap c fun _ _ q => R.ftr e q⟩
  fanti {K H H0 B v x} e h := let ⟨p, vs, a, n, b, c⟩ := h; ⟨p, vs, a, (by
    cases z : H0 p with
    | none => rfl
    | some o => exact absurd n (e p (by rw [z]; exact fun q => nomatch q))), b, pmap c fun _ _ q => R.fanti e q⟩
/-- a pair, a triple -/
def rT2 {α β : Type} (R : Rl α) (S : Rl β) : Rl (α × β) where
  r K B v x := ∃ p v1 v2, v = .ref p ∧ SqT K B p [v1, v2] ∧ R.r K B v1 x.1 ∧ S.r K B v2 x.2
  f K H B v x := ∃ p v1 v2, v = .ref p ∧ SqT K B p [v1, v2] ∧ R.f K H B v1 x.1 ∧ S.f K H B v2 x.2
  mono e h := let ⟨p, v1, v2, a, b, c, d⟩ := h; ⟨p, v1, v2, a, sqt_same e b, R.mono e c, S.mono e d⟩
  fr h := let ⟨p, v1, v2, a, b, c, d⟩ := h; ⟨p, v1, v2, a, b, R.fr c, S.fr d⟩
  ftr e h := let ⟨p, v1, v2, a, b, c, d⟩ := h; ⟨p, v1, v2, a, sqt_tr e b, R.ftr e c, S.ftr e d⟩
  fanti e h := let ⟨p, v1, v2, a, b, c, d⟩ := h; ⟨p, v1, v2, a, b, R.fanti e c, S.fanti e d⟩
def rT3 {α β γ : Type} (R : Rl α) (S : Rl β) (T : Rl γ) : Rl (α × β × γ) where
  r K B v x := ∃ p v1 v2 v3, v = .ref p ∧ SqT K B p [v1, v2, v3] ∧ R.r K B v1 x.1 ∧ S.r K B v2 x.2.1 ∧ T.r K B v3 x.2.2
  f K H B v x := ∃ p v1 v2 v3, v = .ref p ∧ SqT K B p [v1, v2, v3] ∧ R.f K H B v1 x.1 ∧ S.f K H B v2 x.2.1 ∧ T.f K H B v3 x.2.2
  mono e h := let ⟨p, v1, v2, v3, a, b, c, d, g⟩ := h; ⟨p, v1, v2, v3, a, sqt_same e b, R.mono e c, S.mono e d, T.mono e g⟩
  fr h := let ⟨p, v1, v2, v3, a, b, c, d, g⟩ := h; ⟨p, v1, v2, v3, a, b, R.fr c, S.fr d, T.fr g⟩
  ftr e h := let ⟨p, v1, v2, v3, a, b, c, d, g⟩ := h; ⟨p, v1, v2, v3, a, sqt_tr e b, R.ftr e c, S.ftr e d, T.ftr e g⟩
  fanti e h := let ⟨p, v1, v2, v3, a, b, c, d, g⟩ := h; ⟨p, v1, v2, v3, a, b, R.fanti e c, S.fanti e d, T.fanti e g⟩
/-- None, or a thing -/
def rOpt {α : Type} (R : Rl α) : Rl (Option α) where
  r K B v x := match x with | none => v = .non | some a => R.r K B v a
  f K H B v x := match x with | none => v = .non | some a => R.f K H B v a
  mono {K B B' v x} e h := by cases x with | none => exact h | some a => exact R.mono e h
  fr {K H B v x} h := by cases x with | none => exact h | some a => exact R.fr h
  ftr {K H B B2 v x} e h := by cases x with | none => exact h | some a => exact R.ftr e h
  fanti {K H H0 B v x} e h := by cases x with | none => exact h | some a => exact R.fanti e h
theorem imm_tpl {α : Type} {R : Rl α} (i : Imm R) : Imm (rTpl R) := fun _ _ _ _ _ ⟨p, vs, a, b, c⟩ => ⟨p, vs, a, b, pmap c fun _ _ q => i _ _ _ _ _ q⟩
theorem imm_T2 {α β : Type} {R : Rl α} {S : Rl β} (i : Imm R) (j : Imm S) : Imm (rT2 R S) := fun _ _ _ _ _ ⟨p, v1, v2, a, b, c, d⟩ => ⟨p, v1, v2, a, b, i _ _ _ _ _ c, j _ _ _ _ _ d⟩
theorem imm_T3 {α β γ : Type} {R : Rl α} {S : Rl β} {T : Rl γ} (i : Imm R) (j : Imm S) (k : Imm T) : Imm (rT3 R S T) := fun _ _ _ _ _ ⟨p, v1, v2, v3, a, b, c, d, e⟩ => ⟨p, v1, v2, v3, a, b, i _ _ _ _ _ c, j _ _ _ _ _ d, k _ _ _ _ _ e⟩
theorem imm_Opt {α : Type} {R : Rl α} (i : Imm R) : Imm (rOpt R) := fun K H B v x h => by cases x with | none => exact h | some a => exact i _ _ _ _ _ h

/-! ### where one stands -/
structure Ct where
  K : Fg
  H0 : Hp
  B0 : Hp
  k0 : List Addr
  Hs : Hp
abbrev Ct.at (c : Ct) (H : Hp) : Ct := ⟨c.K, c.H0, c.B0, c.k0, H⟩
structure Stp (ks : List Addr) (B H B' H' : Hp) : Prop where
  up : Same B B'
  old : ∀ a, H a ≠ none → B' a = B a
  keep : ∀ a o, H a = some o → a ∉ ks → H' a = some o
  tr : ∀ a, H a ≠ none → H' a ≠ none
theorem Stp.refl {ks : List Addr} {B H : Hp} : Stp ks B H B H := ⟨fun _ _ h => h, fun _ _ => rfl, fun _ _ h _ => h, fun _ h => h⟩
theorem Stp.trans {ks : List Addr} {B H B1 H1 B2 H2 : Hp} (a : Stp ks B H B1 H1) (b : Stp ks B1 H1 B2 H2) : Stp ks B H B2 H2 :=
  ⟨a.up.trans b.up, fun x h => (b.old x (a.tr x h)).trans (a.old x h), fun x o h n => b.keep x o (a.keep x o h n) n, fun x h => b.tr x (a.tr x h)⟩
/-- what is said of an object that is held apart -/
structure Cs where
  p : Hp → HO → Prop
  mono : ∀ {B B' : Hp} {o : HO}, Same B B' → p B o → p B' o
/-- a list -/
def CL {α : Type} (R : Rl α) (K : Fg) (xs : List α) : Cs := ⟨fun B o => ∃ vs, o = .lst vs ∧ Paired (R.r K B) vs xs, fun e h => let ⟨vs, a, b⟩ := h; ⟨vs, a, pmap b fun _ _ q => R.mono e q⟩⟩
/-- the cells that are held apart -/
def Cel (B H : Hp) (ks : List Addr) (os : List Cs) : Prop := Paired (fun (a : Addr) (s : Cs) => ∃ o, H a = some o ∧ B a = none ∧ isM o = true ∧ s.p B o) ks os
structure Wd (c : Ct) (B H : Hp) (ks : List Addr) (os : List Cs) : Prop where
  ex : Same B H
  nd : ks.Nodup
  cell : Cel B H ks os
  own : ∀ a ∈ ks, a ∈ c.k0 ∨ c.H0 a = none
  st : Stp c.k0 c.B0 c.H0 B H
  hs : ∀ a, c.Hs a ≠ none → H a ≠ none
theorem Wd.at {c : Ct} {B H : Hp} {ks : List Addr} {os : List Cs} (w : Wd c B H ks os) : Wd (c.at H) B H ks os := ⟨w.ex, w.nd, w.cell, w.own, w.st, fun _ h => h⟩
theorem Wd.un {c : Ct} {B H B2 H2 : Hp} {ks ks2 : List Addr} {os os2 : List Cs} (w0 : Wd c B H ks os) (w : Wd (c.at H) B2 H2 ks2 os2) : Wd c B2 H2 ks2 os2 := ⟨w.ex, w.nd, w.cell, w.own, w.st, fun a h => w.hs a (w0.hs a h)⟩
theorem Cel.off {B H : Hp} : ∀ {ks : List Addr} {os : List Cs}, Cel B H ks os → ∀ a ∈ ks, B a = none ∧ ∃ o, H a = some o ∧ isM o = true
  | _, _, .nil, _, h => nomatch h
  | _, _, .cons q t, a, h => by
    obtain ⟨o, q1, q2, q3, _⟩ := q
    rcases List.mem_cons.mp h with rfl | h
    · exact ⟨q2, o, q1, q3⟩
    · exact Cel.off t a h
theorem Cel.get {B H : Hp} : ∀ {ks : List Addr} {os : List Cs} {i : Nat} {a : Addr} {s : Cs}, Cel B H ks os → ks[i]? = some a → os[i]? = some s → ∃ o, H a = some o ∧ B a = none ∧ isM o = true ∧ s.p B o
  | _, _, _, _, _, .nil, h, _ => by simp at h
  | _, _, 0, _, _, .cons q _, h, h2 => by simp at h h2; subst h; subst h2; exact q
  | _, _, i + 1, _, _, .cons _ t, h, h2 => Cel.get (i := i) t (by simpa using h) (by simpa using h2)
theorem Wd.off {c : Ct} {B H : Hp} {ks : List Addr} {os : List Cs} (w : Wd c B H ks os) {a : Addr} (h : a ∈ ks) : B a = none := (w.cell.off a h).1
theorem Wd.tr {c : Ct} {B H : Hp} {ks : List Addr} {os : List Cs} (w : Wd c B H ks os) : ∀ a, c.H0 a ≠ none → H a ≠ none := w.st.tr
theorem Wd.new0 {c : Ct} {B H : Hp} {ks : List Addr} {os : List Cs} (w : Wd c B H ks os) {p : Addr} (n : H p = none) : c.H0 p = none := by
  cases z : c.H0 p with
  | none => rfl
  | some o => exact absurd n (w.tr p (by rw [z]; exact fun q => nomatch q))
theorem Wd.news {c : Ct} {B H : Hp} {ks : List Addr} {os : List Cs} (w : Wd c B H ks os) {p : Addr} (n : H p = none) : c.Hs p = none := by
  cases z : c.Hs p with
  | none => rfl
  | some o => exact absurd n (w.hs p (by rw [z]; exact fun q => nomatch q))
/-- the pure part, the cells laid over it -/
def expo (ks : List Addr) (H B : Hp) : Hp := fun a => if a ∈ ks then H a else B a
theorem expo_in {ks : List Addr} {H B : Hp} {a : Addr} (h : a ∈ ks) : expo ks H B a = H a := if_pos h
theorem expo_off {ks : List Addr} {H B : Hp} {a : Addr} (h : a ∉ ks) : expo ks H B a = B a := if_neg h
theorem expo_same {c : Ct} {B H : Hp} {ks : List Addr} {os : List Cs} (w : Wd c B H ks os) {ks' : List Addr} (hs : ∀ a ∈ ks', a ∈ ks) : Same B (expo ks' H B) := fun a o h => by
  rw [expo_off (fun m => by rw [w.off (hs a m)] at h; cases h)]
  exact h
theorem expo_to {c : Ct} {B H : Hp} {ks : List Addr} {os : List Cs} (w : Wd c B H ks os) (ks' : List Addr) : Same (expo ks' H B) H := fun a o h => by
  by_cases m : a ∈ ks'
  · rw [expo_in m] at h
    exact h
  · rw [expo_off m] at h
    exact w.ex a o h
/-- something new, laid into the pure part -/
theorem Wd.new {c : Ct} {B H : Hp} {ks : List Addr} {os : List Cs} (w : Wd c B H ks os) {p : Addr} (n : H p = none) (o : HO) : Same B (upd B p o) ∧ Wd c (upd B p o) (upd H p o) ks os := by
  have up : Same B (upd B p o) := fun a u h => by rw [upd_ne (ne_of_none (w.ex a u h) n)]; exact h
  refine ⟨up, ⟨fun a u h => ?_, w.nd, ?_, w.own, ?_, fun a h => by rw [upd_ne (fun e => w.hs a h (by rw [e]; exact n))]; exact w.hs a h⟩⟩
  · by_cases e : a = p
    · rw [e, upd_same] at h ⊢; exact h
    · rw [upd_ne e] at h ⊢; exact w.ex a u h
  · refine pmap w.cell fun a s ⟨u, q1, q2, q3, q4⟩ => ?_
    have e : a ≠ p := ne_of_none q1 n
    exact ⟨u, by rw [upd_ne e]; exact q1, by rw [upd_ne e]; exact q2, q3, s.mono up q4⟩
  · refine w.st.trans ⟨up, fun a h => ?_, fun a u h _ => ?_, fun a h => ?_⟩
    · exact upd_ne (fun e => h (by rw [e]; exact n))
    · rw [upd_ne (ne_of_none h n)]; exact h
    · rw [upd_ne (fun e => h (by rw [e]; exact n))]; exact h
theorem pset2 {F G : Addr → Cs → Prop} : ∀ {ks : List Addr} {os : List Cs} (i : Nat) {q : Addr} {s : Cs}, ks.Nodup → Paired F ks os → ks[i]? = some q → (∀ a u, a ≠ q → F a u → G a u) → G q s → Paired G ks (os.set i s)
  | _, _, _, _, _, _, .nil, h, _, _ => by simp at h
  | k :: ks, _ :: os, 0, q, s, nd, .cons _ t, h, k1, k2 => by
    simp at h; subst h
    rw [List.nodup_cons] at nd
    refine .cons k2 ?_
    have : ∀ {ks : List Addr} {os : List Cs}, k ∉ ks → Paired F ks os → Paired G ks os := by
      intro ks os n t
      induction t with
      | nil => exact .nil
      | cons a b ih =>
        rw [List.mem_cons, not_or] at n
        exact .cons (k1 _ _ (fun z => n.1 z.symm) a) (ih n.2)
    exact this nd.1 t
  | k :: ks, _ :: os, i + 1, q, s, nd, .cons a t, h, k1, k2 => by
    rw [List.nodup_cons] at nd
    have hq : ks[i]? = some q := by simpa using h
    exact .cons (k1 _ _ (fun z => nd.1 (by rw [z]; exact List.mem_of_getElem? hq)) a) (pset2 i nd.2 t hq k1 k2)
/-- a cell is changed -/
theorem Wd.put {c : Ct} {B H : Hp} {ks : List Addr} {os : List Cs} (w : Wd c B H ks os) {q : Addr} (i : Nat) (hk : ks[i]? = some q) {o : HO} {s : Cs} (m : isM o = true) (hs : s.p B o) : Wd c B (upd H q o) ks (os.set i s) := by
  have hq := List.mem_of_getElem? hk
  obtain ⟨b0, o1, h1, _⟩ := w.cell.off q hq
  refine ⟨fun a u h => ?_, w.nd, ?_, w.own, ?_, fun a h => by
    by_cases e : a = q
    · rw [e, upd_same]; exact fun z => nomatch z
    · rw [upd_ne e]; exact w.hs a h⟩
  · rw [upd_ne (fun e => by rw [e, b0] at h; cases h)]
    exact w.ex a u h
  · refine pset2 i w.nd w.cell hk (fun a u e ⟨o2, q1, q2, q3, q4⟩ => ⟨o2, by rw [upd_ne e]; exact q1, q2, q3, q4⟩) ⟨o, upd_same, b0, m, hs⟩
  · refine ⟨w.st.up, w.st.old, fun a u h n => ?_, fun a h => ?_⟩
    · rw [upd_ne (fun e => ?_)]
      · exact w.st.keep a u h n
      · rcases w.own q hq with z | z
        · exact n (by rw [e]; exact z)
        · rw [e, z] at h; cases h
    · by_cases e : a = q
      · rw [e, upd_same]; exact fun z => nomatch z
      · rw [upd_ne e]; exact w.st.tr a h
/-- a new object becomes a cell -/
theorem Wd.own_new {c : Ct} {B H : Hp} {ks : List Addr} {os : List Cs} (w : Wd c B H ks os) {p : Addr} (n : H p = none) {o : HO} {s : Cs} (m : isM o = true) (hs : s.p B o) : Wd c B (upd H p o) (p :: ks) (s :: os) := by
  have bp : B p = none := by
    cases z : B p with
    | none => rfl
    | some u => rw [w.ex p u z] at n; cases n
  refine ⟨fun a u h => ?_, List.nodup_cons.mpr ⟨fun h => ?_, w.nd⟩, .cons ⟨o, upd_same, bp, m, hs⟩ (pmap w.cell fun a u ⟨o2, q1, q2, q3, q4⟩ => ⟨o2, by rw [upd_ne (ne_of_none q1 n)]; exact q1, q2, q3, q4⟩), fun a h => ?_, ?_, fun a h => by rw [upd_ne (fun e => w.hs a h (by rw [e]; exact n))]; exact w.hs a h⟩
  · rw [upd_ne (ne_of_none (w.ex a u h) n)]; exact w.ex a u h
  · obtain ⟨_, o2, h2, _⟩ := w.cell.off p h
    rw [h2] at n; cases n
  · rcases List.mem_cons.mp h with rfl | h
    · exact .inr (w.new0 n)
    · exact w.own a h
  · refine w.st.trans ⟨Same.refl _, fun a h => rfl, fun a u h _ => ?_, fun a h => ?_⟩
    · rw [upd_ne (ne_of_none h n)]; exact h
    · rw [upd_ne (fun e => h (by rw [e]; exact n))]; exact h
/-- a cell of one's own (not handed in) goes into the pure part -/
theorem Wd.freeze {c : Ct} {B H : Hp} {ks : List Addr} {os : List Cs} {p : Addr} {s : Cs} (w : Wd c B H (p :: ks) (s :: os)) (n : c.H0 p = none) : ∃ o, H p = some o ∧ s.p B o ∧ Same B (upd B p o) ∧ Wd c (upd B p o) H ks os := by
  obtain ⟨o, h1, b0, m, hs⟩ : ∃ o, H p = some o ∧ B p = none ∧ isM o = true ∧ s.p B o := Cel.get (i := 0) w.cell rfl rfl
  have up : Same B (upd B p o) := fun a u h => by rw [upd_ne (ne_of_none h b0)]; exact h
  have nd := List.nodup_cons.mp w.nd
  refine ⟨o, h1, hs, up, ⟨fun a u h => ?_, nd.2, ?_, fun a h => w.own a (List.mem_cons_of_mem _ h), ?_, w.hs⟩⟩
  · by_cases e : a = p
    · rw [e, upd_same] at h; rw [e, h1]; exact h
    · rw [upd_ne e] at h; exact w.ex a u h
  · have t : Cel B H ks os := by
      have z := w.cell
      cases z with
      | cons _ t => exact t
    have : ∀ {ks : List Addr} {os : List Cs}, p ∉ ks → Cel B H ks os → Cel (upd B p o) H ks os := by
      intro ks os n t
      induction t with
      | nil => exact .nil
      | cons a b ih =>
        rw [List.mem_cons, not_or] at n
        obtain ⟨o2, q1, q2, q3, q4⟩ := a
        exact .cons ⟨o2, q1, by rw [upd_ne (fun z => n.1 z.symm)]; exact q2, q3, Cs.mono _ up q4⟩ (ih n.2)
    exact this nd.1 t
  · exact ⟨w.st.up.trans up, fun a h => by rw [upd_ne (fun e => h (by rw [e]; exact n))]; exact w.st.old a h, w.st.keep, w.st.tr⟩
theorem cel_rm {B H : Hp} : ∀ {ks : List Addr} {os : List Cs} (i : Nat), Cel B H ks os → Cel B H (ks.eraseIdx i) (os.eraseIdx i)
  | _, _, _, .nil => .nil
  | _, _, 0, .cons _ t => t
  | _, _, i + 1, .cons a t => .cons a (cel_rm i t)
/-- the i-th cell is forgotten -/
theorem Wd.rm {c : Ct} {B H : Hp} {ks : List Addr} {os : List Cs} (w : Wd c B H ks os) (i : Nat) : Wd c B H (ks.eraseIdx i) (os.eraseIdx i) :=
  ⟨w.ex, w.nd.sublist (List.eraseIdx_sublist ..), cel_rm i w.cell, fun a h => w.own a (List.mem_of_mem_eraseIdx h), w.st, w.hs⟩
/-- a cell is forgotten -/
theorem Wd.drop {c : Ct} {B H : Hp} {ks : List Addr} {os : List Cs} {p : Addr} {s : Cs} (w : Wd c B H (p :: ks) (s :: os)) : Wd c B H ks os := by
  refine ⟨w.ex, (List.nodup_cons.mp w.nd).2, ?_, fun a h => w.own a (List.mem_cons_of_mem _ h), w.st, w.hs⟩
  have z := w.cell
  cases z with
  | cons _ t => exact t
end Dl

/-! Ev -/
set_option Elab.async false
set_option linter.all false
set_option maxRecDepth 100000
set_option maxHeartbeats 2000000
namespace Dl
open PySem PySem.Spec L2
/-! ### what is said of a value -/
structure Sv where
  p : V → Hp → Prop
  mono : ∀ {v : V} {B B' : Hp}, Same B B' → p v B → p v B'
def Rl.s {α : Type} (R : Rl α) (K : Fg) (x : α) : Sv := ⟨fun v B => R.r K B v x, fun e h => R.mono e h⟩
def Rl.g {α : Type} (R : Rl α) (K : Fg) (H0 : Hp) (x : α) : Sv := ⟨fun v B => R.f K H0 B v x, fun e h => R.ftr (fun a o q _ => e a o q) h⟩
/-- the address of a cell of one's own -/
def SA (q : Addr) : Sv := ⟨fun v _ => v = .ref q, fun _ h => h⟩
def Sle (S T : Sv) : Prop := ∀ v B, S.p v B → T.p v B
theorem g_s {α : Type} {R : Rl α} {K : Fg} {H0 : Hp} {x : α} : Sle (R.g K H0 x) (R.s K x) := fun _ _ h => R.fr h
theorem s_g {α : Type} {R : Rl α} {K : Fg} {H0 : Hp} {x : α} (i : Imm R) : Sle (R.s K x) (R.g K H0 x) := fun _ _ h => i _ _ _ _ _ h
def Ev (c : Ct) (te : TE) (σ : L2.St) (B : Hp) (ks : List Addr) (os os' : List Cs) (S : Sv) : Prop :=
  ∀ B1 H1, Same B B1 → Wd c B1 H1 ks os → ∀ Q : VK, (∀ v B2 H2, Same B1 B2 → Wd c B2 H2 ks os' → S.p v B2 → Q v H2) → te σ H1 Q
def EvT (c : Ct) (tt : TT) (σ : L2.St) (B : Hp) (ks : List Addr) (os os' : List Cs) (b : Bool) : Prop :=
  ∀ B1 H1, Same B B1 → Wd c B1 H1 ks os → ∀ Q : Bool → Hp → Prop, (∀ B2 H2, Same B1 B2 → Wd c B2 H2 ks os' → Q b H2) → tt σ H1 Q
def EvA (c : Ct) (ta : TA) (σ : L2.St) (B : Hp) (ks : List Addr) (os os' : List Cs) (Ss : List Sv) : Prop :=
  ∀ B1 H1, Same B B1 → Wd c B1 H1 ks os → ∀ Q : List V → Hp → Prop, (∀ vs B2 H2, Same B1 B2 → Wd c B2 H2 ks os' → Paired (fun v S => Sv.p S v B2) vs Ss → Q vs H2) → ta σ H1 Q
section
variable {c : Ct} {te ta tb : TE} {tt tu : TT} {tl tr : TA} {σ : L2.St} {B : Hp} {ks : List Addr} {os o1 o2 o3 : List Cs} {S T U : Sv} {Ss : List Sv} {i : Nat} {v : V} {r : R2}
theorem Ev.le (h : Ev c te σ B ks o1 o2 S) (k : Sle S T) : Ev c te σ B ks o1 o2 T := fun B1 H1 e w Q q => h B1 H1 e w Q fun v B2 H2 e2 w2 s => q v B2 H2 e2 w2 (k _ _ s)
theorem Ev.up {B' : Hp} (e : Same B B') (h : Ev c te σ B ks o1 o2 S) : Ev c te σ B' ks o1 o2 S := fun B1 H1 e1 => h B1 H1 (e.trans e1)
theorem ev_var (h : σ[i]? = some (some v)) (hs : S.p v B) : Ev c (tVar i) σ B ks os os S := fun B1 H1 e w Q q => ⟨v, h, q v B1 H1 (Same.refl _) w (S.mono e hs)⟩
theorem ev_c (hs : ∀ B, S.p v B) : Ev c (tC v) σ B ks os os S := fun B1 H1 e w Q q => q v B1 H1 (Same.refl _) w (hs _)
theorem ev_int {n : Int} : Ev c (tC (.int n)) σ B ks os os (rInt.s c.K n) := ev_c fun _ => rfl
theorem ev_bl {b : Bool} : Ev c (tC (.bl b)) σ B ks os os (rBool.s c.K b) := ev_c fun _ => rfl
theorem ev_str {z : Str} : Ev c (tC (.str z)) σ B ks os os (rStr.s c.K z) := ev_c fun _ => rfl
theorem ev_non : Ev c (tC .non) σ B ks os os (rUnit.s c.K ()) := ev_c fun _ => rfl
theorem ev_nonO {α : Type} {R : Rl α} : Ev c (tC .non) σ B ks os os ((rOpt R).s c.K none) := ev_c fun _ => rfl
theorem ev_op (ha : Ev c ta σ B ks o1 o2 S) (hb : Ev c tb σ B ks o2 o3 T)
    (hr : ∀ x y B2 H2, Wd c B2 H2 ks o3 → S.p x B2 → T.p y B2 → ∀ Q : VK, (∀ v B3 H3, Same B2 B3 → Wd c B3 H3 ks o3 → U.p v B3 → Q v H3) → r x y H2 Q) : Ev c (tOp r ta tb) σ B ks o1 o3 U := fun B1 H1 e w Q q =>
  ha B1 H1 e w _ fun x B2 H2 e2 w2 s2 => hb B2 H2 (e.trans e2) w2 _ fun y B3 H3 e3 w3 s3 => hr x y B3 H3 w3 (S.mono e3 s2) s3 Q fun v B4 H4 e4 w4 s4 => q v B4 H4 ((e2.trans e3).trans e4) w4 s4
theorem ev_op0 (ha : Ev c ta σ B ks o1 o2 S) (hb : Ev c tb σ B ks o2 o3 T) (hr : ∀ x y B2 H2, Wd c B2 H2 ks o3 → S.p x B2 → T.p y B2 → ∃ v, U.p v B2 ∧ ∀ Q : VK, Q v H2 → r x y H2 Q) : Ev c (tOp r ta tb) σ B ks o1 o3 U :=
  ev_op ha hb fun x y B2 H2 w s t Q q => let ⟨v, u, k⟩ := hr x y B2 H2 w s t; k Q (q v B2 H2 (Same.refl _) w u)
theorem ev_I {C : Int → Int → Prop} {g : Int → Int → V} {m n : Int} {α : Type} {R : Rl α} {z : α} (ha : Ev c ta σ B ks o1 o2 (rInt.s c.K m)) (hb : Ev c tb σ B ks o2 o3 (rInt.s c.K n)) (hC : C m n) (hg : ∀ B, R.r c.K B (g m n) z) : Ev c (tOp (rI C g) ta tb) σ B ks o1 o3 (R.s c.K z) :=
  ev_op0 ha hb fun x y B2 H2 _ s t => ⟨g m n, hg _, fun Q q => ⟨m, n, s, t, hC, q⟩⟩
theorem ev_I0 {g : Int → Int → V} {m n : Int} {α : Type} {R : Rl α} {z : α} (ha : Ev c ta σ B ks o1 o2 (rInt.s c.K m)) (hb : Ev c tb σ B ks o2 o3 (rInt.s c.K n)) (hg : ∀ B, R.r c.K B (g m n) z) : Ev c (tOp (rI0 g) ta tb) σ B ks o1 o3 (R.s c.K z) :=
  ev_op0 ha hb fun x y B2 H2 _ s t => ⟨g m n, hg _, fun Q q => ⟨m, n, s, t, q⟩⟩
theorem ev_add {m n : Int} (ha : Ev c ta σ B ks o1 o2 (rInt.s c.K m)) (hb : Ev c tb σ B ks o2 o3 (rInt.s c.K n)) : Ev c (tOp (rI0 fun i j => .int (i + j)) ta tb) σ B ks o1 o3 (rInt.s c.K (m + n)) := ev_I0 ha hb fun _ => rfl
theorem ev_sub {m n : Int} (ha : Ev c ta σ B ks o1 o2 (rInt.s c.K m)) (hb : Ev c tb σ B ks o2 o3 (rInt.s c.K n)) : Ev c (tOp (rI0 fun i j => .int (i - j)) ta tb) σ B ks o1 o3 (rInt.s c.K (m - n)) := ev_I0 ha hb fun _ => rfl
/-- a product, one factor within 2^64 -/
def mulO (m n : Int) : Option Int := if (-(2 ^ 64) < m ∧ m < 2 ^ 64) ∨ (-(2 ^ 64) < n ∧ n < 2 ^ 64) then some (m * n) else none
theorem ev_mul {m n z : Int} (ha : Ev c ta σ B ks o1 o2 (rInt.s c.K m)) (hb : Ev c tb σ B ks o2 o3 (rInt.s c.K n)) (h : mulO m n = some z) : Ev c (tOp (rI CMul fun i j => .int (i * j)) ta tb) σ B ks o1 o3 (rInt.s c.K z) := by
  unfold mulO at h
  split at h
  · rename_i hc
    exact ev_I ha hb hc fun _ => by cases h; rfl
  · cases h
def modO (m n : Int) : Option Int := if n ≠ 0 then some (m.fmod n) else none
theorem ev_mod {m n z : Int} (ha : Ev c ta σ B ks o1 o2 (rInt.s c.K m)) (hb : Ev c tb σ B ks o2 o3 (rInt.s c.K n)) (h : modO m n = some z) : Ev c (tOp (rI (fun _ j => j ≠ 0) fun i j => .int (i.fmod j)) ta tb) σ B ks o1 o3 (rInt.s c.K z) := by
  unfold modO at h
  split at h
  · rename_i hc
    exact ev_I (C := fun _ j => j ≠ 0) ha hb hc fun _ => by cases h; rfl
  · cases h
def divO (m n : Int) : Option Int := if n ≠ 0 ∧ n.natAbs < 1073741824 then some (m.fdiv n) else none
theorem ev_div {m n z : Int} (ha : Ev c ta σ B ks o1 o2 (rInt.s c.K m)) (hb : Ev c tb σ B ks o2 o3 (rInt.s c.K n)) (h : divO m n = some z) : Ev c (tOp (rI CDivN fun i j => .int (i.fdiv j)) ta tb) σ B ks o1 o3 (rInt.s c.K z) := by
  unfold divO at h
  split at h
  · rename_i hc
    exact ev_I (C := CDivN) ha hb hc fun _ => by cases h; rfl
  · cases h
theorem ev_pow {m n : Int} (ha : Ev c ta σ B ks o1 o2 (rInt.s c.K m)) (hb : Ev c tb σ B ks o2 o3 (rInt.s c.K n)) (h : 0 ≤ n ∧ n ≤ 1000000 ∧ m.natAbs < 2 ^ 64) : Ev c (tOp (rI CPow fun i j => .int (i ^ j.toNat)) ta tb) σ B ks o1 o3 (rInt.s c.K (m ^ n.toNat)) := ev_I (C := CPow) ha hb h fun _ => rfl
theorem ev_neg {m : Int} (ha : Ev c ta σ B ks o1 o2 (rInt.s c.K m)) : Ev c (tUn (rU fun i => .int (-i)) ta) σ B ks o1 o2 (rInt.s c.K (-m)) := fun B1 H1 e w Q q => ha B1 H1 e w _ fun x B2 H2 e2 w2 s => ⟨m, s, q _ B2 H2 e2 w2 rfl⟩
theorem ev_lt {m n : Int} (ha : Ev c ta σ B ks o1 o2 (rInt.s c.K m)) (hb : Ev c tb σ B ks o2 o3 (rInt.s c.K n)) : Ev c (tOp (rI0 fun i j => .bl (decide (i < j))) ta tb) σ B ks o1 o3 (rBool.s c.K (decide (m < n))) := ev_I0 ha hb fun _ => rfl
theorem ev_le {m n : Int} (ha : Ev c ta σ B ks o1 o2 (rInt.s c.K m)) (hb : Ev c tb σ B ks o2 o3 (rInt.s c.K n)) : Ev c (tOp (rI0 fun i j => .bl (decide (i ≤ j))) ta tb) σ B ks o1 o3 (rBool.s c.K (decide (m ≤ n))) := ev_I0 ha hb fun _ => rfl
theorem ev_gt {m n : Int} (ha : Ev c ta σ B ks o1 o2 (rInt.s c.K m)) (hb : Ev c tb σ B ks o2 o3 (rInt.s c.K n)) : Ev c (tOp (rI0 fun i j => .bl (decide (j < i))) ta tb) σ B ks o1 o3 (rBool.s c.K (decide (n < m))) := ev_I0 ha hb fun _ => rfl
theorem ev_ge {m n : Int} (ha : Ev c ta σ B ks o1 o2 (rInt.s c.K m)) (hb : Ev c tb σ B ks o2 o3 (rInt.s c.K n)) : Ev c (tOp (rI0 fun i j => .bl (decide (j ≤ i))) ta tb) σ B ks o1 o3 (rBool.s c.K (decide (n ≤ m))) := ev_I0 ha hb fun _ => rfl
theorem ev_eqI {m n : Int} (ha : Ev c ta σ B ks o1 o2 (rInt.s c.K m)) (hb : Ev c tb σ B ks o2 o3 (rInt.s c.K n)) : Ev c (tOp rEq ta tb) σ B ks o1 o3 (rBool.s c.K (decide (m = n))) := ev_op0 ha hb fun x y B2 H2 _ s t => by
  cases (show x = .int m from s); cases (show y = .int n from t)
  refine ⟨.bl (decide (m = n)), rfl, fun Q q => ⟨rfl, ?_⟩⟩
  rw [show decide (V.int m = V.int n) = decide (m = n) from by simp]
  exact q
theorem ev_neI {m n : Int} (ha : Ev c ta σ B ks o1 o2 (rInt.s c.K m)) (hb : Ev c tb σ B ks o2 o3 (rInt.s c.K n)) : Ev c (tOp rNe ta tb) σ B ks o1 o3 (rBool.s c.K (!decide (m = n))) := ev_op0 ha hb fun x y B2 H2 _ s t => by
  cases (show x = .int m from s); cases (show y = .int n from t)
  refine ⟨.bl (!decide (m = n)), rfl, fun Q q => ⟨rfl, ?_⟩⟩
  rw [show decide (V.int m = V.int n) = decide (m = n) from by simp]
  exact q
/-- is None, is not None -/
theorem ev_isN {α : Type} {R : Rl α} {x : Option α} (ha : Ev c ta σ B ks o1 o2 ((rOpt R).s c.K x)) (hn : ∀ K B v a, R.r K B v a → v ≠ .non) : Ev c (tOp (fun x y H Q => y = .non ∧ Q (.bl (decide (x = .non))) H) ta (tC .non)) σ B ks o1 o2 (rBool.s c.K x.isNone) := ev_op0 ha ev_non fun y z B2 H2 _ s t => by
  refine ⟨.bl x.isNone, rfl, fun Q q => ⟨t, ?_⟩⟩
  have e : decide (y = V.non) = x.isNone := by
    cases x with
    | none => exact decide_eq_true s
    | some a => exact decide_eq_false (hn _ _ _ _ s)
  rw [e]; exact q
theorem ev_notN {α : Type} {R : Rl α} {x : Option α} (ha : Ev c ta σ B ks o1 o2 ((rOpt R).s c.K x)) (hn : ∀ K B v a, R.r K B v a → v ≠ .non) : Ev c (tOp (fun x y H Q => y = .non ∧ Q (.bl (!decide (x = .non))) H) ta (tC .non)) σ B ks o1 o2 (rBool.s c.K x.isSome) := ev_op0 ha ev_non fun y z B2 H2 _ s t => by
  refine ⟨.bl x.isSome, rfl, fun Q q => ⟨t, ?_⟩⟩
  have e : (!decide (y = V.non)) = x.isSome := by
    cases x with
    | none => rw [decide_eq_true (show y = V.non from s)]; rfl
    | some a => rw [decide_eq_false (hn _ _ _ _ s)]; rfl
  rw [e]; exact q
/-! ### tests -/
theorem et_test {b : Bool} (h : Ev c te σ B ks o1 o2 (rBool.s c.K b)) : EvT c (tTest te) σ B ks o1 o2 b := fun B1 H1 e w Q q => h B1 H1 e w _ fun v B2 H2 e2 w2 s => ⟨b, s, q B2 H2 e2 w2⟩
theorem et_B {b : Bool} (h : Ev c te σ B ks o1 o2 (rBool.s c.K b)) : EvT c (tB te) σ B ks o1 o2 b := fun B1 H1 e w Q q => h B1 H1 e w _ fun v B2 H2 e2 w2 s => ⟨b, s, q B2 H2 e2 w2⟩
theorem et_and {a b : Bool} (h1 : EvT c tt σ B ks o1 o2 a) (h2 : a = true → EvT c tu σ B ks o2 o3 b) (h3 : a = false → o2 = o3) : EvT c (tAnd tt tu) σ B ks o1 o3 (a && b) := fun B1 H1 e w Q q => h1 B1 H1 e w _ fun B2 H2 e2 w2 => by
  cases a with
  | true => exact h2 rfl B2 H2 (e.trans e2) w2 Q fun B3 H3 e3 w3 => q B3 H3 (e2.trans e3) w3
  | false => cases h3 rfl; exact q B2 H2 e2 w2
theorem et_or {a b : Bool} (h1 : EvT c tt σ B ks o1 o2 a) (h2 : a = false → EvT c tu σ B ks o2 o3 b) (h3 : a = true → o2 = o3) : EvT c (tOr tt tu) σ B ks o1 o3 (a || b) := fun B1 H1 e w Q q => h1 B1 H1 e w _ fun B2 H2 e2 w2 => by
  cases a with
  | true => cases h3 rfl; exact q B2 H2 e2 w2
  | false => exact h2 rfl B2 H2 (e.trans e2) w2 Q fun B3 H3 e3 w3 => q B3 H3 (e2.trans e3) w3
theorem et_not {a : Bool} (h1 : EvT c tt σ B ks o1 o2 a) : EvT c (tNot tt) σ B ks o1 o2 (!a) := fun B1 H1 e w Q q => h1 B1 H1 e w _ fun B2 H2 e2 w2 => q B2 H2 e2 w2
theorem ev_ofT {b : Bool} (h : EvT c tt σ B ks o1 o2 b) {te : TE} (ht : ∀ σ H Q, tt σ H (fun k H' => Q (.bl k) H') → te σ H Q) : Ev c te σ B ks o1 o2 (rBool.s c.K b) := fun B1 H1 e w Q q => ht _ _ _ (h B1 H1 e w _ fun B2 H2 e2 w2 => q _ B2 H2 e2 w2 rfl)
theorem ev_andV {a b : Bool} (h1 : Ev c ta σ B ks o1 o2 (rBool.s c.K a)) (h2 : a = true → Ev c tb σ B ks o2 o3 (rBool.s c.K b)) (h3 : a = false → o2 = o3) : Ev c (tAndV ta tb) σ B ks o1 o3 (rBool.s c.K (a && b)) := fun B1 H1 e w Q q => h1 B1 H1 e w _ fun v B2 H2 e2 w2 s => ⟨a, s, by
  cases a with
  | true => exact h2 rfl B2 H2 (e.trans e2) w2 Q fun v B3 H3 e3 w3 s => q v B3 H3 (e2.trans e3) w3 s
  | false => cases h3 rfl; exact q _ B2 H2 e2 w2 rfl⟩
theorem ev_orV {a b : Bool} (h1 : Ev c ta σ B ks o1 o2 (rBool.s c.K a)) (h2 : a = false → Ev c tb σ B ks o2 o3 (rBool.s c.K b)) (h3 : a = true → o2 = o3) : Ev c (tOrV ta tb) σ B ks o1 o3 (rBool.s c.K (a || b)) := fun B1 H1 e w Q q => h1 B1 H1 e w _ fun v B2 H2 e2 w2 s => ⟨a, s, by
  cases a with
  | true => cases h3 rfl; exact q _ B2 H2 e2 w2 rfl
  | false => exact h2 rfl B2 H2 (e.trans e2) w2 Q fun v B3 H3 e3 w3 s => q v B3 H3 (e2.trans e3) w3 s⟩
theorem ev_notV {a : Bool} (h1 : Ev c ta σ B ks o1 o2 (rBool.s c.K a)) : Ev c (tNotV ta) σ B ks o1 o2 (rBool.s c.K (!a)) := fun B1 H1 e w Q q => h1 B1 H1 e w _ fun v B2 H2 e2 w2 s => ⟨a, s, q _ B2 H2 e2 w2 rfl⟩
theorem ev_if {b : Bool} (h : EvT c tt σ B ks o1 o2 b) (h1 : b = true → Ev c ta σ B ks o2 o3 S) (h2 : b = false → Ev c tb σ B ks o2 o3 S) : Ev c (tIf tt ta tb) σ B ks o1 o3 S := fun B1 H1 e w Q q => h B1 H1 e w _ fun B2 H2 e2 w2 => by
  cases b with
  | true => exact h1 rfl B2 H2 (e.trans e2) w2 Q fun v B3 H3 e3 w3 s => q v B3 H3 (e2.trans e3) w3 s
  | false => exact h2 rfl B2 H2 (e.trans e2) w2 Q fun v B3 H3 e3 w3 s => q v B3 H3 (e2.trans e3) w3 s
/-! ### arguments -/
theorem ea_nil : EvA c tNil σ B ks os os [] := fun B1 H1 e w Q q => q [] B1 H1 (Same.refl _) w .nil
theorem ea_cons (h : Ev c te σ B ks o1 o2 S) (hr : EvA c tr σ B ks o2 o3 Ss) : EvA c (tCons te tr) σ B ks o1 o3 (S :: Ss) := fun B1 H1 e w Q q =>
  h B1 H1 e w _ fun v B2 H2 e2 w2 s => hr B2 H2 (e.trans e2) w2 _ fun vs B3 H3 e3 w3 ss => q _ B3 H3 (e2.trans e3) w3 (.cons (S.mono e3 s) ss)
end
end Dl

/-! Ev2 -/
set_option Elab.async false
set_option linter.all false
set_option maxRecDepth 100000
set_option maxHeartbeats 2000000
namespace Dl
open PySem PySem.Spec L2
/-! ### lists, wherever they stand -/
/-- a list that is freshly made, its items as they are -/
def SN {α : Type} (R : Rl α) (K : Fg) (H0 : Hp) (xs : List α) : Sv := ⟨fun v B => ∃ p vs, v = .ref p ∧ H0 p = none ∧ B p = some (.lst vs) ∧ Paired (R.r K B) vs xs, fun e h => let ⟨p, vs, a, n, b, d⟩ := h; ⟨p, vs, a, n, e _ _ b, pmap d fun _ _ q => R.mono e q⟩⟩
theorem sn_s {α : Type} {R : Rl α} {K : Fg} {H0 : Hp} {xs : List α} : Sle (SN R K H0 xs) ((rLst R).s K xs) := fun _ _ h => let ⟨p, vs, a, _, b, d⟩ := h; ⟨p, vs, a, b, d⟩
theorem sn_g {α : Type} {R : Rl α} {K : Fg} {H0 : Hp} {xs : List α} (i : Imm R) : Sle (SN R K H0 xs) ((rLst R).g K H0 xs) := fun _ _ h => let ⟨p, vs, a, n, b, d⟩ := h; ⟨p, vs, a, n, b, pmap d fun _ _ q => i _ _ _ _ _ q⟩
theorem g_sn {α : Type} {R : Rl α} {K : Fg} {H0 : Hp} {xs : List α} : Sle ((rLst R).g K H0 xs) (SN R K H0 xs) := fun _ _ h => let ⟨p, vs, a, n, b, d⟩ := h; ⟨p, vs, a, n, b, pmap d fun _ _ q => R.fr q⟩
def SrcL (c : Ct) (ks : List Addr) (os : List Cs) (S : Sv) {α : Type} (R : Rl α) (xs : List α) : Prop :=
  ∀ v B H, Wd c B H ks os → S.p v B → ∃ p vs, v = .ref p ∧ H p = some (.lst vs) ∧ expo ks H B p = some (.lst vs) ∧ Paired (R.r c.K B) vs xs
section
variable {c : Ct} {te ta tb : TE} {tt tu : TT} {tl tr : TA} {σ : L2.St} {B H : Hp} {ks : List Addr} {os o1 o2 o3 : List Cs} {S T U : Sv} {Ss : List Sv} {i : Nat} {v : V} {r : R2} {α β : Type} {R : Rl α} {xs ys : List α} {x y : α}
theorem src_p : SrcL c ks os ((rLst R).s c.K xs) R xs := fun v B H w h => let ⟨p, vs, a, b, d⟩ := h; ⟨p, vs, a, w.ex _ _ b, expo_same w (fun _ z => z) _ _ b, d⟩
theorem src_n : SrcL c ks os (SN R c.K c.Hs xs) R xs := fun v B H w h => let ⟨p, vs, a, _, b, d⟩ := h; ⟨p, vs, a, w.ex _ _ b, expo_same w (fun _ z => z) _ _ b, d⟩
theorem src_g : SrcL c ks os ((rLst R).g c.K c.Hs xs) R xs := fun v B H w h => src_n v B H w (g_sn v B h)
theorem src_o {q : Addr} (i : Nat) (hk : ks[i]? = some q) (ho : os[i]? = some (CL R c.K xs)) : SrcL c ks os (SA q) R xs := fun v B H w h => by
  obtain ⟨o, h1, _, _, vs, rfl, d⟩ := w.cell.get hk ho
  exact ⟨q, vs, h, h1, by rw [expo_in (List.mem_of_getElem? hk)]; exact h1, d⟩
theorem pget {F : V → α → Prop} : ∀ {vs : List V} {xs : List α} {i : Nat} {x : α}, Paired F vs xs → xs[i]? = some x → ∃ v, vs[i]? = some v ∧ F v x
  | _, _, _, _, .nil, h => by simp at h
  | _, _, 0, _, .cons q _, h => by simp at h; subst h; exact ⟨_, rfl, q⟩
  | _, _, i + 1, _, .cons _ t, h => by
    obtain ⟨v, e, q⟩ := pget (i := i) t (by simpa using h)
    exact ⟨v, by simpa using e, q⟩
theorem plen {F : V → α → Prop} {vs : List V} {xs : List α} (h : Paired F vs xs) : vs.length = xs.length := Paired.length h
theorem patI {F : V → α → Prop} {vs : List V} {xs : List α} {i : Int} (h : Paired F vs xs) (e : atI xs i = some x) : ∃ v, atI vs i = some v ∧ F v x := by
  unfold atI at e ⊢
  rw [plen h]
  cases z : ixN xs.length i with
  | none => rw [z] at e; cases e
  | some j =>
    rw [z] at e
    exact pget h e
theorem ptake {F : V → α → Prop} : ∀ {vs : List V} {xs : List α} (n : Nat), Paired F vs xs → Paired F (vs.take n) (xs.take n)
  | _, _, 0, _ => .nil
  | _, _, _ + 1, .nil => .nil
  | _, _, n + 1, .cons q t => .cons q (ptake n t)
theorem pdrop {F : V → α → Prop} : ∀ {vs : List V} {xs : List α} (n : Nat), Paired F vs xs → Paired F (vs.drop n) (xs.drop n)
  | _, _, 0, q => q
  | _, _, _ + 1, .nil => .nil
  | _, _, n + 1, .cons _ t => pdrop n t
theorem papp {F : V → α → Prop} : ∀ {vs ws : List V} {xs ys : List α}, Paired F vs xs → Paired F ws ys → Paired F (vs ++ ws) (xs ++ ys)
  | _, _, _, _, .nil, h => h
  | _, _, _, _, .cons q t, h => .cons q (papp t h)
theorem perase {F : V → α → Prop} : ∀ {vs : List V} {xs : List α} (n : Nat), Paired F vs xs → Paired F (vs.eraseIdx n) (xs.eraseIdx n)
  | _, _, _, .nil => .nil
  | _, _, 0, .cons _ t => t
  | _, _, n + 1, .cons q t => .cons q (perase n t)
theorem pset {F : V → α → Prop} {v : V} (h : F v x) : ∀ {vs : List V} {xs : List α} (n : Nat), Paired F vs xs → Paired F (vs.set n v) (xs.set n x)
  | _, _, _, .nil => .nil
  | _, _, 0, .cons _ t => .cons h t
  | _, _, n + 1, .cons q t => .cons q (pset h n t)
theorem pints {B : Hp} : ∀ {vs : List V} {xs : List Int}, Paired (rInt.r c.K B) vs xs → vs = xs.map V.int
  | _, _, .nil => rfl
  | _, _, .cons q t => by rw [pints t]; cases (show _ = V.int _ from q); rfl
theorem ints_p {B : Hp} : ∀ (xs : List Int), Paired (rInt.r c.K B) (xs.map V.int) xs
  | [] => .nil
  | x :: xs => .cons rfl (ints_p xs)
theorem pbools {B : Hp} : ∀ {vs : List V} {xs : List Bool}, Paired (rBool.r c.K B) vs xs → vs = xs.map V.bl
  | _, _, .nil => rfl
  | _, _, .cons q t => by rw [pbools t]; cases (show _ = V.bl _ from q); rfl
/-- a generic one-argument built-in -/
theorem ev_cb1 {rr : List V → Hp → VK → Prop} (ha : Ev c ta σ B ks o1 o2 S) (hr : ∀ x B2 H2, Wd c B2 H2 ks o2 → S.p x B2 → ∀ Q : VK, (∀ v B3 H3, Same B2 B3 → Wd c B3 H3 ks o2 → U.p v B3 → Q v H3) → rr [x] H2 Q) : Ev c (tCB rr (tCons ta tNil)) σ B ks o1 o2 U := fun B1 H1 e w Q q =>
  ha B1 H1 e w _ fun x B2 H2 e2 w2 s => hr x B2 H2 w2 s Q fun v B3 H3 e3 w3 u => q v B3 H3 (e2.trans e3) w3 u
theorem ev_len (ha : Ev c ta σ B ks o1 o2 S) (hs : SrcL c ks o2 S R xs) : Ev c (tCB (fun xs H Q => ∃ p ys, xs = [.ref p] ∧ (SqL c.K H p ys ∨ SqT c.K H p ys) ∧ Q (.int ys.length) H) (tCons ta tNil)) σ B ks o1 o2 (rInt.s c.K (xs.length : Int)) :=
  ev_cb1 ha fun x B2 H2 w s Q q => by
    obtain ⟨p, vs, rfl, a, _, d⟩ := hs x B2 H2 w s
    exact ⟨p, vs, rfl, .inl (SqL.of a), by rw [plen d]; exact q _ B2 H2 (Same.refl _) w rfl⟩
theorem ev_lenT (ha : Ev c ta σ B ks o1 o2 ((rTpl R).s c.K xs)) : Ev c (tCB (fun xs H Q => ∃ p ys, xs = [.ref p] ∧ (SqL c.K H p ys ∨ SqT c.K H p ys) ∧ Q (.int ys.length) H) (tCons ta tNil)) σ B ks o1 o2 (rInt.s c.K (xs.length : Int)) :=
  ev_cb1 ha fun x B2 H2 w s Q q => by
    obtain ⟨p, vs, rfl, a, d⟩ := s
    exact ⟨p, vs, rfl, .inr (sqt_same w.ex a), by rw [plen d]; exact q _ B2 H2 (Same.refl _) w rfl⟩
theorem new_list {vs : List V} {Q : VK} (w : Wd c B H ks os) (d : Paired (R.r c.K B) vs xs) (q : ∀ v B3 H3, Same B B3 → Wd c B3 H3 ks os → (SN R c.K c.Hs xs).p v B3 → Q v H3) (p : Addr) (n : H p = none) : Q (.ref p) (upd H p (.lst vs)) := by
  obtain ⟨up, w2⟩ := w.new n (.lst vs)
  exact q _ _ _ up w2 ⟨p, vs, rfl, w.news n, upd_same, pmap d fun _ _ z => R.mono up z⟩
theorem new_tup {vs : List V} {Q : VK} (w : Wd c B H ks os) (q : ∀ v B3 H3, Same B B3 → Wd c B3 H3 ks os → (∃ p, v = .ref p ∧ B3 p = some (.tup vs)) → Q v H3) (p : Addr) (n : H p = none) : Q (.ref p) (upd H p (.tup vs)) := by
  obtain ⟨up, w2⟩ := w.new n (.tup vs)
  exact q _ _ _ up w2 ⟨p, rfl, upd_same⟩
theorem ev_list (ha : Ev c ta σ B ks o1 o2 S) (hs : SrcL c ks o2 S R xs) : Ev c (tCB (fun xs H Q => ∃ p ys, xs = [.ref p] ∧ (SqL c.K H p ys ∨ SqT c.K H p ys) ∧ ∀ l, H l = none → Q (.ref l) (upd H l (.lst ys))) (tCons ta tNil)) σ B ks o1 o2 (SN R c.K c.Hs xs) :=
  ev_cb1 ha fun x B2 H2 w s Q q => by
    obtain ⟨p, vs, rfl, a, _, d⟩ := hs x B2 H2 w s
    exact ⟨p, vs, rfl, .inl (SqL.of a), new_list w d q⟩
theorem ev_listT (ha : Ev c ta σ B ks o1 o2 ((rTpl R).s c.K xs)) : Ev c (tCB (fun xs H Q => ∃ p ys, xs = [.ref p] ∧ (SqL c.K H p ys ∨ SqT c.K H p ys) ∧ ∀ l, H l = none → Q (.ref l) (upd H l (.lst ys))) (tCons ta tNil)) σ B ks o1 o2 (SN R c.K c.Hs xs) :=
  ev_cb1 ha fun x B2 H2 w s Q q => by
    obtain ⟨p, vs, rfl, a, d⟩ := s
    exact ⟨p, vs, rfl, .inr (sqt_same w.ex a), new_list w d q⟩
theorem ev_tuple (ha : Ev c ta σ B ks o1 o2 S) (hs : SrcL c ks o2 S R xs) : Ev c (tCB (fun xs H Q => ∃ p ys, xs = [.ref p] ∧ ((SqL c.K H p ys ∧ ∀ l, H l = none → Q (.ref l) (upd H l (.tup ys))) ∨ (SqT c.K H p ys ∧ Q (.ref p) H))) (tCons ta tNil)) σ B ks o1 o2 ((rTpl R).s c.K xs) :=
  ev_cb1 ha fun x B2 H2 w s Q q => by
    obtain ⟨p, vs, rfl, a, _, d⟩ := hs x B2 H2 w s
    exact ⟨p, vs, rfl, .inl ⟨SqL.of a, new_tup w fun v B3 H3 e3 w3 ⟨t, e, z⟩ => q v B3 H3 e3 w3 ⟨t, vs, e, SqT.of z, pmap d fun _ _ y => R.mono e3 y⟩⟩⟩
/-- xs[i] -/
theorem ev_ix {n : Int} (ha : Ev c ta σ B ks o1 o2 S) (hb : Ev c tb σ B ks o2 o3 (rInt.s c.K n)) (hs : SrcL c ks o3 S R xs) (hx : atI xs n = some x) : Ev c (tOp (rIxL c.K) ta tb) σ B ks o1 o3 (R.s c.K x) :=
  ev_op0 ha hb fun a b B2 H2 w s t => by
    obtain ⟨p, vs, rfl, h, _, d⟩ := hs a B2 H2 w s
    obtain ⟨u, hu, ru⟩ := patI d hx
    exact ⟨u, ru, fun Q q => ⟨p, vs, n, u, rfl, t, SqL.of h, hu, q⟩⟩
theorem ev_ixT {n : Int} (ha : Ev c ta σ B ks o1 o2 ((rTpl R).s c.K xs)) (hb : Ev c tb σ B ks o2 o3 (rInt.s c.K n)) (hx : atI xs n = some x) : Ev c (tOp (rIxT c.K) ta tb) σ B ks o1 o3 (R.s c.K x) :=
  ev_op0 ha hb fun a b B2 H2 w s t => by
    obtain ⟨p, vs, rfl, h, d⟩ := s
    obtain ⟨u, hu, ru⟩ := patI d hx
    exact ⟨u, ru, fun Q q => ⟨p, vs, n, u, rfl, t, sqt_same w.ex h, hu, q⟩⟩
theorem ev_T2a {R2' : Rl β} {z : α × β} (ha : Ev c ta σ B ks o1 o2 ((rT2 R R2').s c.K z)) : Ev c (tOp (rIxT c.K) ta (tC (.int 0))) σ B ks o1 o2 (R.s c.K z.1) :=
  ev_op0 ha ev_int fun a b B2 H2 w s t => by
    obtain ⟨p, v1, v2, rfl, h, d1, d2⟩ := s
    exact ⟨v1, d1, fun Q q => ⟨p, _, 0, v1, rfl, t, sqt_same w.ex h, rfl, q⟩⟩
theorem ev_T2b {R2' : Rl β} {z : α × β} (ha : Ev c ta σ B ks o1 o2 ((rT2 R R2').s c.K z)) : Ev c (tOp (rIxT c.K) ta (tC (.int 1))) σ B ks o1 o2 (R2'.s c.K z.2) :=
  ev_op0 ha ev_int fun a b B2 H2 w s t => by
    obtain ⟨p, v1, v2, rfl, h, d1, d2⟩ := s
    exact ⟨v2, d2, fun Q q => ⟨p, _, 1, v2, rfl, t, sqt_same w.ex h, rfl, q⟩⟩
theorem ev_T3a {γ : Type} {R2' : Rl β} {R3 : Rl γ} {z : α × β × γ} (ha : Ev c ta σ B ks o1 o2 ((rT3 R R2' R3).s c.K z)) : Ev c (tOp (rIxT c.K) ta (tC (.int 0))) σ B ks o1 o2 (R.s c.K z.1) :=
  ev_op0 ha ev_int fun a b B2 H2 w s t => by
    obtain ⟨p, v1, v2, v3, rfl, h, d1, d2, d3⟩ := s
    exact ⟨v1, d1, fun Q q => ⟨p, _, 0, v1, rfl, t, sqt_same w.ex h, rfl, q⟩⟩
theorem ev_T3b {γ : Type} {R2' : Rl β} {R3 : Rl γ} {z : α × β × γ} (ha : Ev c ta σ B ks o1 o2 ((rT3 R R2' R3).s c.K z)) : Ev c (tOp (rIxT c.K) ta (tC (.int 1))) σ B ks o1 o2 (R2'.s c.K z.2.1) :=
  ev_op0 ha ev_int fun a b B2 H2 w s t => by
    obtain ⟨p, v1, v2, v3, rfl, h, d1, d2, d3⟩ := s
    exact ⟨v2, d2, fun Q q => ⟨p, _, 1, v2, rfl, t, sqt_same w.ex h, rfl, q⟩⟩
theorem ev_T3c {γ : Type} {R2' : Rl β} {R3 : Rl γ} {z : α × β × γ} (ha : Ev c ta σ B ks o1 o2 ((rT3 R R2' R3).s c.K z)) : Ev c (tOp (rIxT c.K) ta (tC (.int 2))) σ B ks o1 o2 (R3.s c.K z.2.2) :=
  ev_op0 ha ev_int fun a b B2 H2 w s t => by
    obtain ⟨p, v1, v2, v3, rfl, h, d1, d2, d3⟩ := s
    exact ⟨v3, d3, fun Q q => ⟨p, _, 2, v3, rfl, t, sqt_same w.ex h, rfl, q⟩⟩
/-- xs[lo:hi] -/
def cut {α : Type} (xs : List α) (lo hi : Option Int) : List α := (xs.drop (HT.sIx xs.length 0 lo)).take (HT.sIx xs.length xs.length hi - HT.sIx xs.length 0 lo)
def EvO (c : Ct) (to : TO) (σ : L2.St) (B : Hp) (ks : List Addr) (os os' : List Cs) (o : Option Int) : Prop :=
  ∀ B1 H1, Same B B1 → Wd c B1 H1 ks os → ∀ Q : Option Int → Hp → Prop, (∀ B2 H2, Same B1 B2 → Wd c B2 H2 ks os' → Q o H2) → to σ H1 Q
theorem eo_none : EvO c tNoPart σ B ks os os none := fun B1 H1 e w Q q => q B1 H1 (Same.refl _) w
theorem eo_some {n : Int} (h : Ev c ta σ B ks o1 o2 (rInt.s c.K n)) : EvO c (tPart ta) σ B ks o1 o2 (some n) := fun B1 H1 e w Q q => h B1 H1 e w _ fun v B2 H2 e2 w2 s => ⟨n, s, q B2 H2 e2 w2⟩
theorem ev_cut {o4 : List Cs} {tlo thi : TO} {lo hi : Option Int} (ha : Ev c ta σ B ks o1 o2 S) (hl : EvO c tlo σ B ks o2 o3 lo) (hh : EvO c thi σ B ks o3 o4 hi) (hs : SrcL c ks o4 S R xs) : Ev c (tSl (rSlL c.K) ta tlo thi) σ B ks o1 o4 (SN R c.K c.Hs (cut xs lo hi)) := fun B1 H1 e w Q q =>
  ha B1 H1 e w _ fun v B2 H2 e2 w2 s => hl B2 H2 (e.trans e2) w2 _ fun B3 H3 e3 w3 => hh B3 H3 ((e.trans e2).trans e3) w3 _ fun B4 H4 e4 w4 => by
    obtain ⟨p, vs, rfl, h, _, d⟩ := hs v B4 H4 w4 (S.mono (e3.trans e4) s)
    refine ⟨p, vs, rfl, SqL.of h, ?_⟩
    have d2 : Paired (R.r c.K B4) (cutV vs lo hi) (cut xs lo hi) := by
      unfold cutV cut
      rw [plen d]
      exact ptake _ (pdrop _ d)
    exact new_list w4 d2 fun v B5 H5 e5 w5 z => q v B5 H5 (((e2.trans e3).trans e4).trans e5) w5 z
/-- xs + ys -/
theorem ev_cat (ha : Ev c ta σ B ks o1 o2 S) (hb : Ev c tb σ B ks o2 o3 T) (hs : SrcL c ks o3 S R xs) (ht : SrcL c ks o3 T R ys) (hl : xs.length + ys.length ≤ 1000000) : Ev c (tOp rCat ta tb) σ B ks o1 o3 (SN R c.K c.Hs (xs ++ ys)) :=
  ev_op ha hb fun a b B2 H2 w s t Q q => by
    obtain ⟨p, vs, rfl, h, _, d⟩ := hs a B2 H2 w s
    obtain ⟨p', vs', rfl, h', _, d'⟩ := ht b B2 H2 w t
    exact ⟨p, p', vs, vs', rfl, rfl, h, h', by rw [plen d, plen d', sizeLine_eq]; omega, new_list w (papp d d') q⟩
/-- displays -/
theorem ev_lst {tl : TA} (ha : EvA c tl σ B ks o1 o2 (xs.map fun x => R.s c.K x)) (hl : xs.length ≤ 1000) : Ev c (tLst tl) σ B ks o1 o2 (SN R c.K c.Hs xs) := fun B1 H1 e w Q q => ha B1 H1 e w _ fun vs B2 H2 e2 w2 ss => by
  have d : Paired (R.r c.K B2) vs xs := by
    clear q hl ha
    generalize hz : (xs.map fun x => R.s c.K x) = Ss at ss
    induction ss generalizing xs with
    | nil => cases xs with
      | nil => exact .nil
      | cons x xs => cases hz
    | cons h t ih => cases xs with
      | nil => cases hz
      | cons x xs =>
        cases hz
        exact .cons h (ih rfl)
  exact ⟨by rw [plen d, sizeLine_eq]; omega, new_list w2 d fun v B3 H3 e3 w3 z => q v B3 H3 (e2.trans e3) w3 z⟩
theorem ev_tpl {tl : TA} (ha : EvA c tl σ B ks o1 o2 (xs.map fun x => R.s c.K x)) (hl : xs.length ≤ 1000) : Ev c (tTup tl) σ B ks o1 o2 ((rTpl R).s c.K xs) := fun B1 H1 e w Q q => ha B1 H1 e w _ fun vs B2 H2 e2 w2 ss => by
  have d : Paired (R.r c.K B2) vs xs := by
    clear q hl ha
    generalize hz : (xs.map fun x => R.s c.K x) = Ss at ss
    induction ss generalizing xs with
    | nil => cases xs with
      | nil => exact .nil
      | cons x xs => cases hz
    | cons h t ih => cases xs with
      | nil => cases hz
      | cons x xs =>
        cases hz
        exact .cons h (ih rfl)
  exact ⟨by rw [plen d, sizeLine_eq]; omega, new_tup w2 fun v B3 H3 e3 w3 ⟨p, a, b⟩ => q v B3 H3 (e2.trans e3) w3 ⟨p, vs, a, SqT.of b, pmap d fun _ _ y => R.mono e3 y⟩⟩
theorem ev_T2 {R2' : Rl β} {z : β} {tl : TA} (ha : EvA c tl σ B ks o1 o2 [R.s c.K x, R2'.s c.K z]) : Ev c (tTup tl) σ B ks o1 o2 ((rT2 R R2').s c.K (x, z)) := fun B1 H1 e w Q q => ha B1 H1 e w _ fun vs B2 H2 e2 w2 ss => by
  cases ss with
  | cons h1 t => cases t with
    | cons h2 t => cases t with
      | nil => exact ⟨by show 2 ≤ sizeLine; decide, new_tup w2 fun v B3 H3 e3 w3 ⟨p, a, b⟩ => q v B3 H3 (e2.trans e3) w3 ⟨p, _, _, a, SqT.of b, R.mono e3 h1, R2'.mono e3 h2⟩⟩
theorem ev_T3 {γ : Type} {R2' : Rl β} {R3 : Rl γ} {z : β} {u : γ} {tl : TA} (ha : EvA c tl σ B ks o1 o2 [R.s c.K x, R2'.s c.K z, R3.s c.K u]) : Ev c (tTup tl) σ B ks o1 o2 ((rT3 R R2' R3).s c.K (x, z, u)) := fun B1 H1 e w Q q => ha B1 H1 e w _ fun vs B2 H2 e2 w2 ss => by
  cases ss with
  | cons h1 t => cases t with
    | cons h2 t => cases t with
      | cons h3 t => cases t with
        | nil => exact ⟨by show 3 ≤ sizeLine; decide, new_tup w2 fun v B3 H3 e3 w3 ⟨p, a, b⟩ => q v B3 H3 (e2.trans e3) w3 ⟨p, _, _, _, a, SqT.of b, R.mono e3 h1, R2'.mono e3 h2, R3.mono e3 h3⟩⟩
/-- n in xs -/
theorem inV_int (n : Int) (xs : List Int) : inV (.int n) (xs.map V.int) = decide (n ∈ xs) := by
  unfold inV
  induction xs with
  | nil => rfl
  | cons a t ih =>
    rw [List.map_cons, List.any_cons, ih]
    show ((a == n) || decide (n ∈ t)) = decide (n ∈ a :: t)
    by_cases h : a = n
    · subst h; simp
    · have h2 : (a == n) = false := by simpa using h
      rw [h2, Bool.false_or]
      have h3 : ¬ n = a := fun z => h z.symm
      simp [h3]
theorem all_flat (xs : List Int) : (xs.map V.int).all flatV = true := by
  induction xs with
  | nil => rfl
  | cons a t ih => exact ih
theorem ev_in {n : Int} {xs : List Int} (ha : Ev c ta σ B ks o1 o2 (rInt.s c.K n)) (hb : Ev c tb σ B ks o2 o3 T) (hs : SrcL c ks o3 T rInt xs) : Ev c (tOp (rIn c.K false) ta tb) σ B ks o1 o3 (rBool.s c.K (decide (n ∈ xs))) :=
  ev_op0 ha hb fun a b B2 H2 w s t => by
    obtain ⟨p, vs, rfl, h, _, d⟩ := hs b B2 H2 w t
    cases (show a = .int n from s)
    have e := pints d
    subst e
    exact ⟨.bl (decide (n ∈ xs)), rfl, fun Q q => ⟨p, _, rfl, .inl (SqL.of h), rfl, all_flat xs, by rw [inV_int]; exact q⟩⟩
theorem ev_notin {n : Int} {xs : List Int} (ha : Ev c ta σ B ks o1 o2 (rInt.s c.K n)) (hb : Ev c tb σ B ks o2 o3 T) (hs : SrcL c ks o3 T rInt xs) : Ev c (tOp (rIn c.K true) ta tb) σ B ks o1 o3 (rBool.s c.K (!decide (n ∈ xs))) :=
  ev_op0 ha hb fun a b B2 H2 w s t => by
    obtain ⟨p, vs, rfl, h, _, d⟩ := hs b B2 H2 w t
    cases (show a = .int n from s)
    have e := pints d
    subst e
    exact ⟨.bl (!decide (n ∈ xs)), rfl, fun Q q => ⟨p, _, rfl, .inl (SqL.of h), rfl, all_flat xs, by rw [inV_int]; exact q⟩⟩
theorem ev_inT {n : Int} {xs : List Int} (ha : Ev c ta σ B ks o1 o2 (rInt.s c.K n)) (hb : Ev c tb σ B ks o2 o3 ((rTpl rInt).s c.K xs)) : Ev c (tOp (rIn c.K false) ta tb) σ B ks o1 o3 (rBool.s c.K (decide (n ∈ xs))) :=
  ev_op0 ha hb fun a b B2 H2 w s t => by
    obtain ⟨p, vs, rfl, h, d⟩ := t
    cases (show a = .int n from s)
    have e := pints d
    subst e
    exact ⟨.bl (decide (n ∈ xs)), rfl, fun Q q => ⟨p, _, rfl, .inr (sqt_same w.ex h), rfl, all_flat xs, by rw [inV_int]; exact q⟩⟩
theorem ev_notinT {n : Int} {xs : List Int} (ha : Ev c ta σ B ks o1 o2 (rInt.s c.K n)) (hb : Ev c tb σ B ks o2 o3 ((rTpl rInt).s c.K xs)) : Ev c (tOp (rIn c.K true) ta tb) σ B ks o1 o3 (rBool.s c.K (!decide (n ∈ xs))) :=
  ev_op0 ha hb fun a b B2 H2 w s t => by
    obtain ⟨p, vs, rfl, h, d⟩ := t
    cases (show a = .int n from s)
    have e := pints d
    subst e
    exact ⟨.bl (!decide (n ∈ xs)), rfl, fun Q q => ⟨p, _, rfl, .inr (sqt_same w.ex h), rfl, all_flat xs, by rw [inV_int]; exact q⟩⟩
/-- built-ins on ints -/
theorem ev_abs {n : Int} (ha : Ev c ta σ B ks o1 o2 (rInt.s c.K n)) : Ev c (tCB (fun xs H Q => ∃ i, xs = [.int i] ∧ Q (.int (if i < 0 then -i else i)) H) (tCons ta tNil)) σ B ks o1 o2 (rInt.s c.K (if n < 0 then -n else n)) :=
  ev_cb1 ha fun x B2 H2 w s Q q => ⟨n, by rw [show x = .int n from s], q _ B2 H2 (Same.refl _) w rfl⟩
theorem ev_int1 {n : Int} (ha : Ev c ta σ B ks o1 o2 (rInt.s c.K n)) : Ev c (tCB (fun xs H Q => (∃ i, xs = [.int i] ∧ Q (.int i) H) ∨ ∃ k, xs = [.bl k] ∧ Q (.int (if k then 1 else 0)) H) (tCons ta tNil)) σ B ks o1 o2 (rInt.s c.K n) :=
  ev_cb1 ha fun x B2 H2 w s Q q => .inl ⟨n, by rw [show x = .int n from s], q _ B2 H2 (Same.refl _) w rfl⟩
theorem ev_sum {xs : List Int} (ha : Ev c ta σ B ks o1 o2 S) (hs : SrcL c ks o2 S rInt xs) : Ev c (tCB (rSum c.K) (tCons ta tNil)) σ B ks o1 o2 (rInt.s c.K xs.sum) :=
  ev_cb1 ha fun x B2 H2 w s Q q => by
    obtain ⟨p, vs, rfl, a, _, d⟩ := hs x B2 H2 w s
    have e := pints d
    subst e
    exact ⟨p, xs, rfl, SqL.of a, q _ B2 H2 (Same.refl _) w rfl⟩
theorem ev_any {xs : List Bool} (ha : Ev c ta σ B ks o1 o2 S) (hs : SrcL c ks o2 S rBool xs) : Ev c (tCB (rAny c.K) (tCons ta tNil)) σ B ks o1 o2 (rBool.s c.K (xs.any id)) :=
  ev_cb1 ha fun x B2 H2 w s Q q => by
    obtain ⟨p, vs, rfl, a, _, d⟩ := hs x B2 H2 w s
    have e := pbools d
    subst e
    exact ⟨p, xs, rfl, SqL.of a, q _ B2 H2 (Same.refl _) w rfl⟩
theorem ev_all {xs : List Bool} (ha : Ev c ta σ B ks o1 o2 S) (hs : SrcL c ks o2 S rBool xs) : Ev c (tCB (rAll c.K) (tCons ta tNil)) σ B ks o1 o2 (rBool.s c.K (xs.all id)) :=
  ev_cb1 ha fun x B2 H2 w s Q q => by
    obtain ⟨p, vs, rfl, a, _, d⟩ := hs x B2 H2 w s
    have e := pbools d
    subst e
    exact ⟨p, xs, rfl, SqL.of a, q _ B2 H2 (Same.refl _) w rfl⟩
end
end Dl

/-! Ev3 -/
set_option Elab.async false
set_option linter.all false
set_option maxRecDepth 100000
set_option maxHeartbeats 2000000
namespace Dl
open PySem PySem.Spec L2
section
variable {c : Ct} {te ta tb : TE} {tt tu : TT} {tl tr : TA} {σ : L2.St} {B H : Hp} {ks : List Addr} {os o1 o2 o3 : List Cs} {S T U : Sv} {Ss : List Sv} {i : Nat} {v : V} {r : R2} {α β : Type} {R : Rl α} {xs ys : List α} {x y : α} {q : Addr}
/-! ### lists of one's own are changed -/
def appO (xs : List α) (x : α) : Option (List α) := if xs.length < 1000000 then some (xs ++ [x]) else none
def popO (xs : List α) : Option (α × List α) := match xs[xs.length - 1]? with | some y => some (y, xs.dropLast) | none => none
def popAtO (xs : List α) (i : Int) : Option (α × List α) := if xs.length < 1000000 then (match ixN xs.length i with | some k => (match xs[k]? with | some y => some (y, xs.eraseIdx k) | none => none) | none => none) else none
def insO (xs : List α) (i : Int) (x : α) : Option (List α) := if 0 ≤ i ∧ i < 1000000 ∧ xs.length < 1000000 then some (xs.take i.toNat ++ [x] ++ xs.drop i.toNat) else none
def setO (xs : List α) (i : Int) (x : α) : Option (List α) := match ixN xs.length i with | some k => some (xs.set k x) | none => none
theorem set_same {os : List Cs} {s : Cs} (h : os[i]? = some s) (s2 s3 : Cs) : (os.set i s2).set i s3 = os.set i s3 := by rw [List.set_set]
theorem ty_list {p : Addr} {vs : List V} (h : H p = some (.lst vs)) : tyV c.K "list" (.ref p) H := Or.inl ⟨rfl, _, SqL.of h⟩
theorem ev_app {α' : Type} {R' : Rl α'} {xs' : List α'} {z : List α} (i : Nat) (hk : ks[i]? = some q) (ha : Ev c ta σ B ks o1 o1 (SA q)) (h1 : o1[i]? = some (CL R' c.K xs')) (he : Ev c te σ B ks o1 o2 (R.s c.K x)) (h2 : o2[i]? = some (CL R c.K xs)) (hz : appO xs x = some z) :
    Ev c (tBM c.K "list" rAppend ta (tCons te tNil)) σ B ks o1 (o2.set i (CL R c.K z)) (rUnit.s c.K ()) := fun B1 H1 e w Q q0 =>
  ha B1 H1 e w _ fun v B2 H2 e2 w2 s => by
    obtain ⟨o, h3, _, _, vs, rfl, _⟩ := w2.cell.get hk h1
    cases (show v = .ref q from s)
    refine ⟨ty_list h3, he B2 H2 (e.trans e2) w2 _ fun y B3 H3 e3 w3 sy => ?_⟩
    obtain ⟨o, h4, _, _, vs4, rfl, d⟩ := w3.cell.get hk h2
    unfold appO at hz
    split at hz
    · rename_i hl
      cases hz
      refine ⟨q, vs4, y, rfl, rfl, h4, by rw [plen d, sizeLine_eq]; omega, q0 _ B3 _ (e2.trans e3) (w3.put i hk rfl ⟨_, rfl, papp d (.cons sy .nil)⟩) rfl⟩
    · cases hz
theorem ev_pop {z : α × List α} (i : Nat) (hk : ks[i]? = some q) (ha : Ev c ta σ B ks o1 o1 (SA q)) (h1 : o1[i]? = some (CL R c.K xs)) (hz : popO xs = some z) :
    Ev c (tBM0 c.K "list" rPop ta) σ B ks o1 (o1.set i (CL R c.K z.2)) (R.s c.K z.1) := fun B1 H1 e w Q q0 =>
  ha B1 H1 e w _ fun v B2 H2 e2 w2 s => by
    obtain ⟨o, h3, _, _, vs, rfl, d⟩ := w2.cell.get hk h1
    cases (show v = .ref q from s)
    refine ⟨ty_list h3, ?_⟩
    unfold popO at hz
    cases hy : xs[xs.length - 1]? with
    | none => rw [hy] at hz; cases hz
    | some y =>
      rw [hy] at hz; cases hz
      obtain ⟨u, hu, ru⟩ := pget d hy
      have d2 : Paired (R.r c.K B2) vs.dropLast xs.dropLast := by
        rw [List.dropLast_eq_take, List.dropLast_eq_take, plen d]
        exact ptake _ d
      exact ⟨q, vs, u, rfl, rfl, h3, by rw [plen d]; exact hu, q0 _ B2 _ e2 (w2.put i hk rfl ⟨_, rfl, d2⟩) ru⟩
theorem ev_popAt {z : α × List α} {n : Int} {α' : Type} {R' : Rl α'} {xs' : List α'} (i : Nat) (hk : ks[i]? = some q) (ha : Ev c ta σ B ks o1 o1 (SA q)) (h1 : o1[i]? = some (CL R' c.K xs')) (he : Ev c te σ B ks o1 o2 (rInt.s c.K n)) (h2 : o2[i]? = some (CL R c.K xs)) (hz : popAtO xs n = some z) :
    Ev c (tBM c.K "list" rPopAt ta (tCons te tNil)) σ B ks o1 (o2.set i (CL R c.K z.2)) (R.s c.K z.1) := fun B1 H1 e w Q q0 =>
  ha B1 H1 e w _ fun v B2 H2 e2 w2 s => by
    obtain ⟨o, h3, _, _, vs, rfl, _⟩ := w2.cell.get hk h1
    cases (show v = .ref q from s)
    refine ⟨ty_list h3, he B2 H2 (e.trans e2) w2 _ fun y B3 H3 e3 w3 sy => ?_⟩
    obtain ⟨o, h4, _, _, vs4, rfl, d⟩ := w3.cell.get hk h2
    cases (show y = .int n from sy)
    unfold popAtO at hz
    split at hz
    · rename_i hl
      cases hk2 : ixN xs.length n with
      | none => rw [hk2] at hz; cases hz
      | some k =>
        rw [hk2] at hz
        cases hy : xs[k]? with
        | none => simp only [hy] at hz; cases hz
        | some y =>
          simp only [hy] at hz; cases hz
          obtain ⟨u, hu, ru⟩ := pget d hy
          obtain ⟨a1, a2, a3, a4⟩ := ixN_seq hk2
          exact ⟨q, vs4, n, k, u, rfl, rfl, h4, by omega, by omega, by rw [plen d]; exact a1, hu, q0 _ B3 _ (e2.trans e3) (w3.put i hk rfl ⟨_, rfl, perase k d⟩) ru⟩
    · cases hz
theorem ev_ins {z : List α} {n : Int} {α' : Type} {R' : Rl α'} {xs' : List α'} (i : Nat) (hk : ks[i]? = some q) (ha : Ev c ta σ B ks o1 o1 (SA q)) (h1 : o1[i]? = some (CL R' c.K xs')) (hn : Ev c tb σ B ks o1 o2 (rInt.s c.K n)) (he : Ev c te σ B ks o2 o3 (R.s c.K x)) (h2 : o3[i]? = some (CL R c.K xs)) (hz : insO xs n x = some z) :
    Ev c (tBM c.K "list" (fun x vs H Q => ∃ (l : Addr) (xs : List V) (i : Int) (y : V), x = .ref l ∧ vs = [.int i, y] ∧ H l = some (.lst xs) ∧ xs.length < sizeLine ∧ 0 ≤ i ∧ i < 2 ^ 63 ∧ Q .non (upd H l (.lst (xs.take i.toNat ++ [y] ++ xs.drop i.toNat)))) ta (tCons tb (tCons te tNil))) σ B ks o1 (o3.set i (CL R c.K z)) (rUnit.s c.K ()) := fun B1 H1 e w Q q0 =>
  ha B1 H1 e w _ fun v B2 H2 e2 w2 s => by
    obtain ⟨o, h3, _, _, vs, rfl, _⟩ := w2.cell.get hk h1
    cases (show v = .ref q from s)
    refine ⟨ty_list h3, hn B2 H2 (e.trans e2) w2 _ fun m B3 H3 e3 w3 sm => he B3 H3 ((e.trans e2).trans e3) w3 _ fun y B4 H4 e4 w4 sy => ?_⟩
    obtain ⟨o, h4, _, _, vs4, rfl, d⟩ := w4.cell.get hk h2
    cases (show m = .int n from sm)
    unfold insO at hz
    split at hz
    · rename_i hl
      cases hz
      exact ⟨q, vs4, n, y, rfl, rfl, h4, by rw [plen d, sizeLine_eq]; omega, hl.1, by omega, q0 _ B4 _ ((e2.trans e3).trans e4) (w4.put i hk rfl ⟨_, rfl, papp (papp (ptake _ d) (.cons sy .nil)) (pdrop _ d)⟩) rfl⟩
    · cases hz
/-! ### statements -/
variable {D : Ends} {tS uS : TS}
theorem s_asg {j : Nat} (w : Wd c B H ks o1) (h : Ev (c.at H) te σ B ks o1 o2 S) (k : ∀ v B2 H2, Same B B2 → Wd c B2 H2 ks o2 → S.p v B2 → D.nx (σ.set j (some v)) H2) : tAsg te (gName j) D σ H :=
  h B H (Same.refl _) w.at _ fun v B2 H2 e w2 s => k v B2 H2 e (w.un w2) s
/-- the object's items are not to be changed in place -/
def CsI (s : Cs) : Prop := ∀ (B B' : Hp) (o : HO), (∀ a u, B a = some u → isM u = false → B' a = some u) → s.p B o → s.p B' o
theorem imm_tr (hi : Imm R) {K : Fg} {B B' : Hp} (e : ∀ a u, B a = some u → isM u = false → B' a = some u) (h : R.r K B v x) : R.r K B' v x := by
  refine R.fr (H := B) (R.ftr (fun a o z m => ?_) (hi _ B _ _ _ h))
  rcases m with m | m
  · exact e a o z m
  · rw [m] at z; cases z
theorem csi (hi : Imm R) {K : Fg} : CsI (CL R K xs) := fun B B' o e ⟨vs, a, d⟩ => ⟨vs, a, pmap d fun _ _ q => imm_tr hi e q⟩
def AllI : List Cs → Prop
  | [] => True
  | s :: r => CsI s ∧ AllI r
def hid (p : Addr) (B : Hp) : Hp := fun a => if a = p then none else B a
theorem hid_at {p : Addr} {B : Hp} : hid p B p = none := if_pos rfl
theorem hid_ne {p a : Addr} {B : Hp} (h : a ≠ p) : hid p B a = B a := if_neg h
theorem cel_hid {p : Addr} (im : ∀ a u, B a = some u → isM u = false → hid p B a = some u) : ∀ {ks : List Addr} {os : List Cs}, p ∉ ks → AllI os → Cel B H ks os → Cel (hid p B) H ks os
  | _, _, _, _, .nil => .nil
  | _, _, n, ai, .cons a b => by
    rw [List.mem_cons, not_or] at n
    obtain ⟨o2, q1, q2, q3, q4⟩ := a
    exact .cons ⟨o2, q1, by rw [hid_ne (fun z => n.1 z.symm)]; exact q2, q3, ai.1 _ _ _ im q4⟩ (cel_hid im n.2 ai.2 b)
/-- x = a fresh list that becomes a cell of one's own -/
theorem s_own {j : Nat} (w : Wd c B H ks o1) (h : Ev (c.at H) te σ B ks o1 o2 (SN R c.K H xs)) (hi : Imm R) (ai : AllI o2) (k : ∀ p B2 H2, Same B B2 → c.H0 p = none → Wd c B2 H2 (p :: ks) (CL R c.K xs :: o2) → D.nx (σ.set j (some (.ref p))) H2) : tAsg te (gName j) D σ H :=
  h B H (Same.refl _) w.at _ fun v B2 H2 e w2 ⟨p, vs, a, n, b, d⟩ => by
    subst a
    have w3 := w.un w2
    have np : p ∉ ks := fun m => by rw [w3.off m] at b; cases b
    have im : ∀ a u, B2 a = some u → isM u = false → hid p B2 a = some u := fun a u z m => by
      rw [hid_ne (fun ea => by subst ea; rw [b] at z; cases z; cases m)]
      exact z
    have up : Same B (hid p B2) := fun a u h => by
      rw [hid_ne (ne_of_none (w.ex a u h) n)]
      exact e a u h
    refine k p (hid p B2) H2 up (w.new0 n) ⟨fun a u h => ?_, List.nodup_cons.mpr ⟨np, w3.nd⟩, .cons ⟨.lst vs, w3.ex _ _ b, hid_at, rfl, vs, rfl, pmap d fun _ _ q => imm_tr hi im q⟩ (cel_hid im np ai w3.cell), fun a h => ?_, ?_, w3.hs⟩
    · by_cases ea : a = p
      · rw [ea, hid_at] at h; cases h
      · rw [hid_ne ea] at h; exact w3.ex a u h
    · rcases List.mem_cons.mp h with rfl | h
      · exact .inr (w.new0 n)
      · exact w3.own a h
    · exact ⟨fun a u h => up a u (w.st.up a u h), fun a h => by rw [hid_ne (fun ea => h (by rw [ea]; exact w.new0 n))]; exact w3.st.old a h, w3.st.keep, w3.st.tr⟩
/-- x = [], to be filled -/
theorem s_ownNil {j : Nat} (R : Rl α) (w : Wd c B H ks o1) (k : ∀ p H2, c.H0 p = none → Wd c B H2 (p :: ks) (CL R c.K [] :: o1) → D.nx (σ.set j (some (.ref p))) H2) : tAsg (tLst tNil) (gName j) D σ H :=
  ⟨by show 0 ≤ sizeLine; exact Nat.zero_le _, fun p n => k p _ (w.new0 n) (w.own_new n rfl ⟨[], rfl, .nil⟩)⟩
theorem s_ret (w : Wd c B H ks o1) (h : Ev (c.at H) te σ B ks o1 o2 S) (k : ∀ v B2 H2, Same B B2 → Wd c B2 H2 ks o2 → S.p v B2 → D.rt v H2) : tRet te D σ H :=
  h B H (Same.refl _) w.at _ fun v B2 H2 e w2 s => k v B2 H2 e (w.un w2) s
theorem s_drop (w : Wd c B H ks o1) (h : Ev (c.at H) te σ B ks o1 o2 S) (k : ∀ B2 H2, Same B B2 → Wd c B2 H2 ks o2 → D.nx σ H2) : tDrop te D σ H :=
  h B H (Same.refl _) w.at _ fun v B2 H2 e w2 s => k B2 H2 e (w.un w2)
theorem s_if {b : Bool} (w : Wd c B H ks o1) (h : EvT (c.at H) tt σ B ks o1 o2 b) (k1 : b = true → ∀ B2 H2, Same B B2 → Wd c B2 H2 ks o2 → tS D σ H2) (k2 : b = false → ∀ B2 H2, Same B B2 → Wd c B2 H2 ks o2 → uS D σ H2) : tIfS tt tS uS D σ H :=
  h B H (Same.refl _) w.at _ fun B2 H2 e w2 => by
    cases b with
    | true => exact k1 rfl B2 H2 e (w.un w2)
    | false => exact k2 rfl B2 H2 e (w.un w2)
/-- xs[i] = e, xs a cell of one's own -/
theorem s_set {z : List α} {n : Int} {to ti : TE} (i : Nat) (hk : ks[i]? = some q) (w : Wd c B H ks o1) (he : Ev (c.at H) te σ B ks o1 o2 (R.s c.K x)) (ho : Ev (c.at H) to σ B ks o2 o2 (SA q)) (hn : Ev (c.at H) ti σ B ks o2 o3 (rInt.s c.K n)) (h2 : o3[i]? = some (CL R c.K xs)) (hz : setO xs n x = some z)
    (k : ∀ B2 H2, Same B B2 → Wd c B2 H2 ks (o3.set i (CL R c.K z)) → D.nx σ H2) : tAsg te (gSub to ti rSetL) D σ H :=
  he B H (Same.refl _) w.at _ fun v B2 H2 e2 w2 s => ho B2 H2 e2 w2 _ fun v3 B3 H3 e3 w3 s3 => hn B3 H3 (e2.trans e3) w3 _ fun v4 B4 H4 e4 w4 s4 => by
    cases (show v3 = .ref q from s3); cases (show v4 = .int n from s4)
    obtain ⟨o, h4, _, _, vs4, rfl, d⟩ := w4.cell.get hk h2
    unfold setO at hz
    cases hj : ixN xs.length n with
    | none => rw [hj] at hz; cases hz
    | some j =>
      rw [hj] at hz; cases hz
      exact ⟨q, vs4, n, j, rfl, rfl, h4, by rw [plen d]; exact hj, k B4 _ ((e2.trans e3).trans e4) ((w.un w4).put i hk rfl ⟨_, rfl, pset (R.mono (e3.trans e4) s) j d⟩)⟩
/-! ### walks -/
def IterSpec (K : Fg) (J : It) (B2 : Hp) {α : Type} (R : Rl α) (xs : List α) : Prop := ∀ (c : Ct) (i : Nat) (B H : Hp) (ks : List Addr) (os : List Cs), c.K = K → Same B2 B → Wd c B H ks os →
  (∀ x, xs[i]? = some x → J.go i H ∧ ∀ v H', J.yld i H v H' → ∃ B', Same B B' ∧ Wd c B' H' ks os ∧ R.r K B' v x) ∧ (xs.length ≤ i → J.stop i H)
def EvI (c : Ct) (wi : TI) (σ : L2.St) (B : Hp) (ks : List Addr) (os os' : List Cs) {α : Type} (R : Rl α) (xs : List α) : Prop :=
  ∀ B1 H1, Same B B1 → Wd c B1 H1 ks os → ∀ Rk : It → Hp → Prop, (∀ J B2 H2, Same B1 B2 → Wd c B2 H2 ks os' → IterSpec c.K J B2 R xs → Rk J H2) → wi σ H1 Rk
theorem ei_list (h : Ev c te σ B ks o1 o2 ((rLst R).s c.K xs)) : EvI c (iList c.K te) σ B ks o1 o2 R xs := fun B1 H1 e w Rk q =>
  h B1 H1 e w _ fun v B2 H2 e2 w2 ⟨p, vs, a, b, d⟩ => by
    subst a
    refine ⟨p, rfl, ⟨vs, SqL.of (w2.ex _ _ b)⟩, q _ B2 H2 e2 w2 fun c' i B3 H3 ks3 os3 _ e3 w3 => ⟨fun x hx => ?_, fun hl => ⟨vs, SqL.of (w3.ex _ _ (e3 _ _ b)), by rw [plen d]; exact hl⟩⟩⟩
    obtain ⟨u, hu, ru⟩ := pget d hx
    have hp := SqL.of (K := c.K) (w3.ex _ _ (e3 _ _ b))
    refine ⟨⟨vs, u, hp, hu⟩, fun y H' hy => ?_⟩
    obtain ⟨rfl, hy⟩ := hy
    have hv := hy vs hp
    rw [hu] at hv; cases hv
    exact ⟨B3, Same.refl _, w3, R.mono e3 ru⟩
theorem ei_tup (h : Ev c te σ B ks o1 o2 ((rTpl R).s c.K xs)) : EvI c (iTup c.K te) σ B ks o1 o2 R xs := fun B1 H1 e w Rk q =>
  h B1 H1 e w _ fun v B2 H2 e2 w2 ⟨p, vs, a, b, d⟩ => by
    subst a
    refine ⟨p, rfl, ⟨vs, sqt_same w2.ex b⟩, q _ B2 H2 e2 w2 fun c' i B3 H3 ks3 os3 _ e3 w3 => ⟨fun x hx => ?_, fun hl => ⟨vs, sqt_same (e3.trans w3.ex) b, by rw [plen d]; exact hl⟩⟩⟩
    obtain ⟨u, hu, ru⟩ := pget d hx
    have hp := sqt_same (e3.trans w3.ex) b
    refine ⟨⟨vs, u, hp, hu⟩, fun y H' hy => ?_⟩
    obtain ⟨rfl, hy⟩ := hy
    have hv := hy vs hp
    rw [hu] at hv; cases hv
    exact ⟨B3, Same.refl _, w3, R.mono e3 ru⟩
/-- lo, lo + 1, .. below hi -/
def rangeI (lo hi : Int) : List Int := (List.range (hi - lo).toNat).map fun (k : Nat) => lo + (k : Int)
theorem it_range {K : Fg} {B2 : Hp} (lo : Int) (n : Nat) : IterSpec K (Itr lo n) B2 rInt ((List.range n).map fun (k : Nat) => lo + (k : Int)) := fun c i B3 H3 ks3 os3 _ _ w3 => by
  refine ⟨fun x hx => ?_, fun hl => ?_⟩
  · rw [List.getElem?_map] at hx
    cases hr : (List.range n)[i]? with
    | none => rw [hr] at hx; cases hx
    | some k =>
      rw [hr] at hx; cases hx
      obtain ⟨hi, rfl⟩ := List.getElem?_eq_some_iff.mp hr
      rw [List.length_range] at hi
      refine ⟨hi, fun v H' hy => ?_⟩
      obtain ⟨rfl, rfl⟩ := hy
      exact ⟨B3, Same.refl _, w3, by rw [List.getElem_range]; rfl⟩
  · rw [List.length_map, List.length_range] at hl
    exact hl
theorem ei_rng1 {n : Int} {tl : TA} (h : EvA c tl σ B ks o1 o2 [rInt.s c.K n]) (hn : -(2 ^ 62) ≤ n ∧ n < 2 ^ 62) : EvI c (iRng1 tl) σ B ks o1 o2 rInt (rangeI 0 n) := fun B1 H1 e w Rk q =>
  h B1 H1 e w _ fun vs B2 H2 e2 w2 ss => by
    cases ss with
    | cons h1 t => cases t with
      | nil =>
        cases (show _ = V.int n from h1)
        have z := it_range (K := c.K) (B2 := B2) 0 (n - 0).toNat
        rw [Int.sub_zero] at z
        refine ⟨n, rfl, hn.1, hn.2, q _ B2 H2 e2 w2 ?_⟩
        unfold rangeI
        rw [Int.sub_zero]
        exact z
theorem ei_rng2 {m n : Int} {tl : TA} (h : EvA c tl σ B ks o1 o2 [rInt.s c.K m, rInt.s c.K n]) (hn : -(2 ^ 62) ≤ m ∧ m < 2 ^ 62 ∧ -(2 ^ 62) ≤ n ∧ n < 2 ^ 62) : EvI c (iRng2 tl) σ B ks o1 o2 rInt (rangeI m n) := fun B1 H1 e w Rk q =>
  h B1 H1 e w _ fun vs B2 H2 e2 w2 ss => by
    cases ss with
    | cons h1 t => cases t with
      | cons h2 t => cases t with
        | nil =>
          cases (show _ = V.int m from h1); cases (show _ = V.int n from h2)
          exact ⟨m, n, rfl, hn, q _ B2 H2 e2 w2 (it_range m _)⟩
/-! ### for -/
inductive Ctl (ρ τ : Type) where
  | nx (r : ρ)
  | bk (r : ρ)
  | rt (t : τ)
def forL {α ρ τ : Type} (f : α → ρ → Option (Ctl ρ τ)) : List α → ρ → Option (Ctl ρ τ)
  | [], r => some (.nx r)
  | x :: xs, r => match f x r with
    | some (.nx r') => forL f xs r'
    | some (.bk r') => some (.nx r')
    | some (.rt t) => some (.rt t)
    | none => none
theorem s_for {ρ τ : Type} {wi : TI} {g : TG} {oo : ρ → List Cs} {ρ0 : ρ} (f : α → ρ → Option (Ctl ρ τ)) (J : ρ → L2.St → Hp → Prop) (Fin : Option (Ctl ρ τ) → Prop) (w : Wd c B H ks o1) (hi : EvI (c.at H) wi σ B ks o1 (oo ρ0) R xs)
    (jm : ∀ ρ σ' B1 B2, Same B1 B2 → J ρ σ' B1 → J ρ σ' B2) (j0 : ∀ B2, Same B B2 → J ρ0 σ B2) (fin0 : Fin (forL f xs ρ0))
    (step : ∀ x rest ρ v σ' B' H', Same B B' → Wd c B' H' ks (oo ρ) → J ρ σ' B' → R.r c.K B' v x → Fin (forL f (x :: rest) ρ) → ∀ N : L2.St → Hp → Prop, (∀ ρ' σ2 B2 H2, f x ρ = some (.nx ρ') → Same B' B2 → Wd c B2 H2 ks (oo ρ') → J ρ' σ2 B2 → N σ2 H2) →
      (∀ ρ σ' B' H', Same B B' → Wd c B' H' ks (oo ρ) → J ρ σ' B' → Fin (some (.nx ρ)) → D.nx σ' H') → g v σ' H' fun σ2 H2 => tS { D with nx := N, ct := N, bk := D.nx } σ2 H2)
    (done : ∀ ρ σ' B' H', Same B B' → Wd c B' H' ks (oo ρ) → J ρ σ' B' → Fin (some (.nx ρ)) → D.nx σ' H') : tFor wi g tS D σ H :=
  hi B H (Same.refl _) w.at _ fun It B2 H2 e2 w2 sp => by
    refine ⟨fun i m σ' H' => m = xs.length - i ∧ i ≤ xs.length ∧ ∃ ρ B', Same B B' ∧ Same B2 B' ∧ Wd c B' H' ks (oo ρ) ∧ J ρ σ' B' ∧ Fin (forL f (xs.drop i) ρ), ⟨_, rfl, Nat.zero_le _, ρ0, B2, e2, Same.refl _, w.un w2, j0 B2 e2, fin0⟩, ?_⟩
    rintro i m σ' H' ⟨rfl, hil, ρ, B', e, e3, w3, hj, hf⟩
    obtain ⟨s1, s2⟩ := sp c i B' H' ks (oo ρ) rfl e3 w3
    by_cases hlt : i < xs.length
    · have hx : xs[i]? = some xs[i] := List.getElem?_eq_getElem hlt
      obtain ⟨go, yl⟩ := s1 _ hx
      rw [List.drop_eq_getElem_cons hlt] at hf
      refine .inr ⟨go, fun σ2 H2 => ∃ ρ' B'', f xs[i] ρ = some (.nx ρ') ∧ Same B B'' ∧ Same B2 B'' ∧ Wd c B'' H2 ks (oo ρ') ∧ J ρ' σ2 B'', ?_, ?_⟩
      · rintro σ2 H2 ⟨ρ', B'', hfx, e4, e5, w4, j4⟩
        refine ⟨xs.length - (i + 1), by omega, rfl, hlt, ρ', B'', e4, e5, w4, j4, ?_⟩
        unfold forL at hf
        rw [hfx] at hf
        exact hf
      · intro v H'' hy
        obtain ⟨B3, e6, w6, r6⟩ := yl v H'' hy
        exact step _ _ ρ v σ' B3 H'' (e.trans e6) w6 (jm _ _ _ _ e6 hj) r6 hf _ (fun ρ' σ2 B4 H4 hfx e7 w7 j7 => ⟨ρ', B4, hfx, (e.trans e6).trans e7, (e3.trans e6).trans e7, w7, j7⟩) done
    · have e : i = xs.length := by omega
      subst e
      rw [List.drop_length] at hf
      exact .inl ⟨s2 (Nat.le_refl _), done ρ σ' B' H' (by assumption) w3 hj hf⟩
/-! ### while -/
def whF {ρ τ : Type} (f : ρ → Option (Option (Ctl ρ τ))) : Nat → ρ → Option (Ctl ρ τ)
  | 0, _ => none
  | n + 1, r => match f r with
    | some none => some (.nx r)
    | some (some (.nx r')) => whF f n r'
    | some (some (.bk r')) => some (.nx r')
    | some (some (.rt t)) => some (.rt t)
    | none => none
theorem s_while {ρ τ : Type} {oo : ρ → List Cs} {ρ0 : ρ} {fuel : Nat} (f : ρ → Option (Option (Ctl ρ τ))) (J : ρ → L2.St → Hp → Prop) (Fin : Option (Ctl ρ τ) → Prop) (w : Wd c B H ks (oo ρ0))
    (j0 : J ρ0 σ B) (fin0 : Fin (whF f fuel ρ0)) (no : ¬ Fin none)
    (done : ∀ ρ σ' B' H', Same B B' → Wd c B' H' ks (oo ρ) → J ρ σ' B' → Fin (some (.nx ρ)) → D.nx σ' H')
    (step : ∀ n ρ σ' B' H', Same B B' → Wd c B' H' ks (oo ρ) → J ρ σ' B' → Fin (whF f (n + 1) ρ) → ∃ b os2, EvT (c.at H') tt σ' B' ks (oo ρ) os2 b ∧
      (b = true → ∀ B1 H1, Same B' B1 → Wd c B1 H1 ks os2 → ∀ N : L2.St → Hp → Prop, (∀ ρ' σ2 B2 H2, f ρ = some (some (.nx ρ')) → Same B' B2 → Wd c B2 H2 ks (oo ρ') → J ρ' σ2 B2 → N σ2 H2) → tS { D with nx := N, ct := N, bk := D.nx } σ' H1) ∧
      (b = false → ∃ ρ', os2 = oo ρ' ∧ Fin (some (.nx ρ')) ∧ ∀ B1, Same B' B1 → J ρ' σ' B1)) : tWhile tt tS D σ H := by
  refine ⟨fun m σ' H' => ∃ ρ B', Same B B' ∧ Wd c B' H' ks (oo ρ) ∧ J ρ σ' B' ∧ Fin (whF f m ρ), ⟨fuel, ρ0, B, Same.refl _, w, j0, fin0⟩, ?_⟩
  rintro m σ' H' ⟨ρ, B', e, w3, hj, hf⟩
  cases m with
  | zero => exact absurd hf no
  | succ m =>
    obtain ⟨b, os2, ht, k1, k2⟩ := step m ρ σ' B' H' e w3 hj hf
    refine ht B' H' (Same.refl _) w3.at _ fun B1 H1 e1 w1 => ?_
    cases b with
    | false =>
      obtain ⟨ρ', eo, f1, j1⟩ := k2 rfl
      subst eo
      exact done ρ' σ' B1 H1 (e.trans e1) (w3.un w1) (j1 B1 e1) f1
    | true =>
      refine ⟨fun σ2 H2 => ∃ ρ' B'', f ρ = some (some (.nx ρ')) ∧ Same B B'' ∧ Wd c B'' H2 ks (oo ρ') ∧ J ρ' σ2 B'', ?_, k1 rfl B1 H1 e1 (w3.un w1) _ fun ρ' σ2 B4 H4 hfx e7 w7 j7 => ⟨ρ', B4, hfx, e.trans e7, w7, j7⟩⟩
      rintro σ2 H2 ⟨ρ', B'', hfx, e4, w4, j4⟩
      refine ⟨m, Nat.lt_succ_self _, ρ', B'', e4, w4, j4, ?_⟩
      unfold whF at hf
      rw [hfx] at hf
      exact hf
/-- what follows a loop, or what it hands back -/
def finK {ρ τ δ : Type} (k : ρ → Option δ) (kr : τ → Option δ) : Option (Ctl ρ τ) → Option δ
  | some (.nx r) => k r
  | some (.bk r) => k r
  | some (.rt t) => kr t
  | none => none
theorem forL_step {α ρ τ δ : Type} {k : ρ → Option δ} {kr : τ → Option δ} {f : α → ρ → Option (Ctl ρ τ)} {x : α} {rest : List α} {r : ρ} {z : δ} (h : finK k kr (forL f (x :: rest) r) = some z) :
    ∃ ctl, f x r = some ctl ∧ (∀ r', ctl = .bk r' → finK k kr (some (.nx r')) = some z) ∧ ∀ t, ctl = .rt t → kr t = some z := by
  unfold forL at h
  cases hf : f x r with
  | none => rw [hf] at h; cases h
  | some ctl =>
    rw [hf] at h
    refine ⟨ctl, rfl, fun r' e => ?_, fun t e => ?_⟩
    · subst e; exact h
    · subst e; exact h
theorem whF_step {ρ τ δ : Type} {k : ρ → Option δ} {kr : τ → Option δ} {f : ρ → Option (Option (Ctl ρ τ))} {n : Nat} {r : ρ} {z : δ} (h : finK k kr (whF f (n + 1) r) = some z) :
    ∃ o, f r = some o ∧ (o = none → finK k kr (some (.nx r)) = some z) ∧ (∀ r', o = some (.bk r') → finK k kr (some (.nx r')) = some z) ∧ ∀ t, o = some (.rt t) → kr t = some z := by
  unfold whF at h
  cases hf : f r with
  | none => rw [hf] at h; cases h
  | some o =>
    rw [hf] at h
    refine ⟨o, rfl, fun e => ?_, fun r' e => ?_, fun t e => ?_⟩
    · subst e; exact h
    · subst e; exact h
    · subst e; exact h
theorem s_ifJ {ρ : Type} {ks2 : List Addr} {oo : ρ → List Cs} {b : Bool} (J : ρ → L2.St → Hp → Prop) (Fin : ρ → Prop) (w : Wd c B H ks o1) (h : EvT (c.at H) tt σ B ks o1 o2 b)
    (done : ∀ ρ σ' B' H', Same B B' → Wd c B' H' ks2 (oo ρ) → J ρ σ' B' → Fin ρ → D.nx σ' H')
    (k1 : b = true → ∀ B2 H2, Same B B2 → Wd c B2 H2 ks o2 → ∀ N : L2.St → Hp → Prop, (∀ ρ σ' B' H', Same B B' → Wd c B' H' ks2 (oo ρ) → J ρ σ' B' → Fin ρ → N σ' H') → tS { D with nx := N } σ H2)
    (k2 : b = false → ∀ B2 H2, Same B B2 → Wd c B2 H2 ks o2 → ∀ N : L2.St → Hp → Prop, (∀ ρ σ' B' H', Same B B' → Wd c B' H' ks2 (oo ρ) → J ρ σ' B' → Fin ρ → N σ' H') → uS { D with nx := N } σ H2) : tIfS tt tS uS D σ H :=
  s_if w h (fun hb B2 H2 e w2 => k1 hb B2 H2 e w2 D.nx done) fun hb B2 H2 e w2 => k2 hb B2 H2 e w2 D.nx done
/-! ### comprehensions -/
def lcM {α β ρ : Type} (tf : α → ρ → Option (Bool × ρ)) (ef : α → ρ → Option (β × ρ)) : List α → ρ → Option (List β × ρ)
  | [], r => some ([], r)
  | x :: xs, r => match tf x r with
    | none => none
    | some (false, r1) => lcM tf ef xs r1
    | some (true, r1) => match ef x r1 with
      | none => none
      | some (y, r2) => match lcM tf ef xs r2 with
        | none => none
        | some (ys, r3) => some (y :: ys, r3)
def lcO {α β ρ : Type} (tf : α → ρ → Option (Bool × ρ)) (ef : α → ρ → Option (β × ρ)) (xs : List α) (r : ρ) : Option (List β × ρ) := if xs.length ≤ 1000000 then lcM tf ef xs r else none
theorem ev_lc {ρ : Type} {wi : TI} {g : TG} {vs : List Nat} {oo : ρ → List Cs} {ρ0 : ρ} {R' : Rl β} {z : List β × ρ} (tf : α → ρ → Option (Bool × ρ)) (ef : α → ρ → Option (β × ρ)) (T : α → Hp → L2.St → Prop) (hi : EvI c wi σ B ks o1 (oo ρ0) R xs) (hz : lcO tf ef xs ρ0 = some z)
    (tm : ∀ x B1 B2 σ2, Same B1 B2 → T x B1 σ2 → T x B2 σ2)
    (hg : ∀ v x B' H' (ks' : List Addr) (os' : List Cs), Wd c B' H' ks' os' → R.r c.K B' v x → ∀ P : L2.St → Hp → Prop, (∀ σ2, wipe σ2 vs = wipe σ vs → T x B' σ2 → P σ2 H') → g v (wipe σ vs) H' P)
    (ht : ∀ x r b r1 σ2 B' p acc, tf x r = some (b, r1) → Same B B' → T x B' σ2 → EvT c tt σ2 B' (p :: ks) (CL R' c.K acc :: oo r) (CL R' c.K acc :: oo r1) b)
    (he : ∀ x r y r1 σ2 B' p acc, ef x r = some (y, r1) → Same B B' → T x B' σ2 → Ev c te σ2 B' (p :: ks) (CL R' c.K acc :: oo r) (CL R' c.K acc :: oo r1) (R'.s c.K y)) :
    Ev c (tLc wi g tt te vs) σ B ks o1 (oo z.2) (SN R' c.K c.Hs z.1) := fun B1 H1 e1 w1 Q q => by
  unfold lcO at hz
  split at hz
  · rename_i hl
    refine hi B1 H1 e1 w1 _ fun It B2 H2 e2 w2 sp => ?_
    intro Dl hn
    have w3 : Wd c B2 (upd H2 Dl (.lst [])) (Dl :: ks) (CL R' c.K [] :: oo ρ0) := w2.own_new hn rfl ⟨[], rfl, .nil⟩
    have n0 : c.H0 Dl = none := w2.new0 hn
    have ns : c.Hs Dl = none := w2.news hn
    refine ⟨fun i m H' => m = xs.length - i ∧ i ≤ xs.length ∧ ∃ r acc B', Same B B' ∧ Same B2 B' ∧ Wd c B' H' (Dl :: ks) (CL R' c.K acc :: oo r) ∧ acc.length ≤ i ∧ ∃ u, lcM tf ef (xs.drop i) r = some u ∧ z = (acc ++ u.1, u.2), ⟨_, rfl, Nat.zero_le _, ρ0, [], B2, e1.trans e2, Same.refl _, w3, Nat.zero_le _, z, hz, rfl⟩, ?_⟩
    rintro i m H' ⟨rfl, hil, r, acc, B', e, e3, w, hacc, u, hu, hzz⟩
    obtain ⟨s1, s2⟩ := sp c i B' H' _ _ rfl e3 w
    by_cases hlt : i < xs.length
    · have hx : xs[i]? = some xs[i] := List.getElem?_eq_getElem hlt
      obtain ⟨go, yl⟩ := s1 _ hx
      rw [List.drop_eq_getElem_cons hlt] at hu
      refine .inr ⟨go, fun H' => ∃ r acc B', Same B B' ∧ Same B2 B' ∧ Wd c B' H' (Dl :: ks) (CL R' c.K acc :: oo r) ∧ acc.length ≤ i + 1 ∧ ∃ u, lcM tf ef (xs.drop (i + 1)) r = some u ∧ z = (acc ++ u.1, u.2), ?_, ?_⟩
      · rintro H3 ⟨r, acc, B', a1, a2, a3, a4, a5⟩
        exact ⟨xs.length - (i + 1), by omega, rfl, hlt, r, acc, B', a1, a2, a3, a4, a5⟩
      · intro v H'' hy
        obtain ⟨B3, e6, w6, r6⟩ := yl v H'' hy
        refine hg v _ B3 H'' _ _ w6 r6 _ fun σ2 hw hT => ⟨hw, ?_⟩
        unfold lcM at hu
        cases htf : tf xs[i] r with
        | none => rw [htf] at hu; cases hu
        | some br =>
          obtain ⟨b, r1⟩ := br
          rw [htf] at hu
          refine ht _ r b r1 σ2 B3 Dl acc htf (e.trans e6) hT B3 H'' (Same.refl _) w6 _ fun B4 H4 e7 w7 => ?_
          cases b with
          | false =>
            show ∃ r acc B', _
            exact ⟨r1, acc, B4, (e.trans e6).trans e7, (e3.trans e6).trans e7, w7, by omega, u, hu, hzz⟩
          | true =>
            rw [if_pos rfl]
            simp only at hu
            cases hef : ef xs[i] r1 with
            | none => rw [hef] at hu; cases hu
            | some yr =>
              obtain ⟨y, r2⟩ := yr
              rw [hef] at hu
              simp only at hu
              cases hr : lcM tf ef (xs.drop (i + 1)) r2 with
              | none => rw [hr] at hu; cases hu
              | some u2 =>
                obtain ⟨ys, r3⟩ := u2
                rw [hr] at hu
                simp only at hu
                cases hu
                refine he _ r1 y r2 σ2 B4 Dl acc hef ((e.trans e6).trans e7) (tm _ _ _ _ e7 hT) B4 H4 (Same.refl _) w7 _ fun y' B5 H5 e8 w8 sy => ?_
                obtain ⟨o, h5, _, _, av, rfl, d⟩ := w8.cell.get (i := 0) rfl rfl
                refine ⟨av, h5, by rw [plen d, sizeLine_eq]; omega, r2, acc ++ [y], B5, ((e.trans e6).trans e7).trans e8, ((e3.trans e6).trans e7).trans e8, w8.put (s := CL R' c.K (acc ++ [y])) 0 rfl rfl ⟨_, rfl, papp d (.cons sy .nil)⟩, by rw [List.length_append]; simp; omega, (ys, r3), hr, ?_⟩
                rw [hzz, List.append_assoc]
                rfl
    · have ei : i = xs.length := by omega
      subst ei
      rw [List.drop_length] at hu
      cases hu
      refine .inl ⟨s2 (Nat.le_refl _), ?_⟩
      obtain ⟨o, h5, ⟨av, rfl, d⟩, up, w5⟩ := w.freeze n0
      have := q (.ref Dl) _ H' ((e3.trans up) |> fun z => (e2.trans z)) (by rw [hzz]; exact w5) (by
        rw [hzz]
        show ∃ p vs, _
        exact ⟨Dl, av, rfl, ns, upd_same, by rw [List.append_nil]; exact pmap d fun _ _ q => R'.mono up q⟩)
      exact this
  · cases hz
end
end Dl

/-! Ev4 -/
set_option Elab.async false
set_option linter.all false
set_option maxRecDepth 100000
set_option maxHeartbeats 2000000
namespace Dl
open PySem PySem.Spec L2
/-! ### promises of defs -/
/-- what is raised: a class with a field that holds an int, or none -/
inductive Xc where
  | one (cls fld : Str) (n : Int)
  | nul (cls : Str)
  deriving DecidableEq
/-- ga: where the module's classes stand -/
def XR (ga : Str → Addr) (x : Xc) (cls : Value) (d : Option Addr) (B : Hp) : Prop := match x with
  | .one k f n => cls = .ref (ga k) ∧ ∃ a, d = some a ∧ B a = some (.xd [(f, .int n)])
  | .nul k => cls = .ref (ga k) ∧ d = none
theorem XR.mono {ga : Str → Addr} {x : Xc} {cls : Value} {d : Option Addr} {B B' : Hp} (h : XR ga x cls d B) (e : ∀ a o, B a = some o → isM o = false → B' a = some o) : XR ga x cls d B' := by
  cases x with
  | one k f n =>
    obtain ⟨a, b, z1, z2⟩ := h
    exact ⟨a, b, z1, e _ _ z2 rfl⟩
  | nul k => exact h
theorem imm_hids {c : Ct} {B H B' H' : Hp} {ks : List Addr} {os : List Cs} (w : Wd c B H ks os) (st : Stp [] (expo ks H B) H B' H') : ∀ a o, B' a = some o → isM o = false → (if a ∈ ks then none else B' a) = some o := fun a o h m => by
  rw [if_neg (fun ha => ?_)]
  · exact h
  · obtain ⟨_, o2, h2, h3⟩ := w.cell.off a ha
    have z := st.old a (by rw [h2]; exact fun z => nomatch z)
    rw [expo_in ha, h2, h] at z
    cases z
    rw [h3] at m; cases m
abbrev Rs (α : Type) := Option (Except Xc α)
/-- nothing is handed in to be changed; the answer is new (f) -/
def Pr0 {γ δ : Type} (K : Fg) (as : γ → List Sv) (m : γ → Option δ) (Rr : Rl δ) : Sp := fun vs H Q _ => ∃ g y B, Paired (fun v S => Sv.p S v B) vs (as g) ∧ Same B H ∧ m g = some y ∧
  ∀ v B' H', Stp [] B H B' H' → Same B' H' → Rr.f K H B' v y → Q v H'
/-- the same, the answer may be a part of what is handed in -/
def Pr0a {γ δ : Type} (K : Fg) (as : γ → List Sv) (m : γ → Option δ) (Rr : Rl δ) : Sp := fun vs H Q _ => ∃ g y B, Paired (fun v S => Sv.p S v B) vs (as g) ∧ Same B H ∧ m g = some y ∧
  ∀ v B' H', Stp [] B H B' H' → Same B' H' → Rr.r K B' v y → Q v H'
/-- it may raise -/
def PrX {γ δ : Type} (K : Fg) (ga : Str → Addr) (as : γ → List Sv) (m : γ → Rs δ) (Rr : Rl δ) : Sp := fun vs H Q E => ∃ g y B, Paired (fun v S => Sv.p S v B) vs (as g) ∧ Same B H ∧ m g = some y ∧
  match y with
  | .ok y => ∀ v B' H', Stp [] B H B' H' → Same B' H' → Rr.f K H B' v y → Q v H'
  | .error x => ∀ cls d B' H', Stp [] B H B' H' → Same B' H' → XR ga x cls d B' → E cls d H'
/-- one thing is handed in to be changed, at p -/
def Pr1 {γ δ ε : Type} (K : Fg) (as : γ → Addr → List Sv) (Ci : γ → Cs) (m : γ → Option (δ × ε)) (Co : ε → Cs) (Rr : Rl δ) : Sp := fun vs H Q _ => ∃ g p z B o, Paired (fun v S => Sv.p S v B) vs (as g p) ∧ Same B H ∧ H p = some o ∧ B p = none ∧ isM o = true ∧ (Ci g).p B o ∧ m g = some z ∧
  ∀ v B' H' o', Stp [p] B H B' H' → Same B' H' → H' p = some o' → isM o' = true → (Co z.2).p B' o' → Rr.f K H B' v z.1 → Q v H'
section
variable {c : Ct} {te ta tb : TE} {tt tu : TT} {tl tr : TA} {σ : L2.St} {B H : Hp} {ks : List Addr} {os o1 o2 o3 : List Cs} {S T U : Sv} {Ss Ts : List Sv} {i : Nat} {v : V} {r : R2} {α β : Type} {R : Rl α} {xs ys : List α} {x y : α} {q : Addr}
/-- arguments, as the callee reads them, the cells ks' laid open -/
def ALe (c : Ct) (ks : List Addr) (os : List Cs) (ks' : List Addr) (Ss Ts : List Sv) : Prop := ∀ B H, Wd c B H ks os → Paired (fun S T => ∀ v, Sv.p S v B → Sv.p T v (expo ks' H B)) Ss Ts
variable {ks' : List Addr}
theorem al_nil : ALe c ks os ks' [] [] := fun _ _ _ => .nil
theorem al_p {Ss Ts : List Sv} (hs : ∀ a ∈ ks', a ∈ ks) (h : ALe c ks os ks' Ss Ts) : ALe c ks os ks' (S :: Ss) (S :: Ts) := fun B H w => .cons (fun v z => S.mono (expo_same w hs) z) (h B H w)
theorem al_le {Ss Ts : List Sv} (k : Sle S T) (hs : ∀ a ∈ ks', a ∈ ks) (h : ALe c ks os ks' Ss Ts) : ALe c ks os ks' (S :: Ss) (T :: Ts) := fun B H w => .cons (fun v z => T.mono (expo_same w hs) (k _ _ z)) (h B H w)
theorem al_o {Ss Ts : List Sv} (i : Nat) (hk : ks[i]? = some q) (ho : os[i]? = some (CL R c.K xs)) (hm : q ∈ ks') (hs : ∀ a ∈ ks', a ∈ ks) (h : ALe c ks os ks' Ss Ts) : ALe c ks os ks' (SA q :: Ss) ((rLst R).s c.K xs :: Ts) := fun B H w => .cons (fun v z => by
  obtain ⟨o, h1, _, _, vs, rfl, d⟩ := w.cell.get hk ho
  exact ⟨q, vs, z, by rw [expo_in hm]; exact h1, pmap d fun _ _ y => R.mono (expo_same w hs) y⟩) (h B H w)
theorem p_le {P : Sv → Sv → Prop} {B B' : Hp} {vs : List V} : ∀ {vs : List V} {Ss Ts : List Sv}, Paired (fun v S => Sv.p S v B) vs Ss → Paired (fun S T => ∀ v, Sv.p S v B → Sv.p T v B') Ss Ts → Paired (fun v S => Sv.p S v B') vs Ts
  | _, _, _, .nil, .nil => .nil
  | _, _, _, .cons a b, .cons d e => .cons (d _ a) (p_le (P := P) (vs := vs) b e)
def hids (ks : List Addr) (B : Hp) : Hp := fun a => if a ∈ ks then none else B a
theorem hids_in {ks : List Addr} {B : Hp} {a : Addr} (h : a ∈ ks) : hids ks B a = none := if_pos h
theorem hids_off {ks : List Addr} {B : Hp} {a : Addr} (h : a ∉ ks) : hids ks B a = B a := if_neg h
/-- behind a call that changes nothing -/
theorem after0 {B' H' : Hp} (w : Wd c B H ks os) (st : Stp [] (expo ks H B) H B' H') (ex : Same B' H') : Same B (hids ks B') ∧ Wd c (hids ks B') H' ks os ∧ ∀ {δ : Type} (Rr : Rl δ) v y, Rr.f c.K H B' v y → Rr.f c.K H (hids ks B') v y := by
  have sm := expo_same w (ks' := ks) fun _ z => z
  have up : Same B (hids ks B') := fun a o h => by
    have n : a ∉ ks := fun m => by rw [w.off m] at h; cases h
    rw [hids_off n]
    exact st.up a o (sm a o h)
  refine ⟨up, ⟨fun a o h => ?_, w.nd, ?_, w.own, w.st.trans ⟨up, fun a h => ?_, fun a o h _ => st.keep a o h (by simp), st.tr⟩, fun a h => st.tr a (w.hs a h)⟩, fun Rr v y h => Rr.ftr (fun a o z m => ?_) h⟩
  · by_cases m : a ∈ ks
    · rw [hids_in m] at h; cases h
    · rw [hids_off m] at h; exact ex a o h
  · have : ∀ {ks2 : List Addr} {os : List Cs}, (∀ a ∈ ks2, a ∈ ks) → Cel B H ks2 os → Cel (hids ks B') H' ks2 os := by
      intro ks2 os hm t
      induction t with
      | nil => exact .nil
      | cons a b ih =>
        obtain ⟨o2, q1, q2, q3, q4⟩ := a
        exact .cons ⟨o2, st.keep _ _ q1 (by simp), hids_in (hm _ List.mem_cons_self), q3, Cs.mono _ up q4⟩ (ih fun a h => hm a (List.mem_cons_of_mem _ h))
    exact this (fun _ z => z) w.cell
  · by_cases m : a ∈ ks
    · rw [hids_in m, w.off m]
    · rw [hids_off m, st.old a h, expo_off m]
  · have n : a ∉ ks := fun mm => by
      have hh : B' a = expo ks H B a := st.old a (by obtain ⟨_, o2, h2, _⟩ := w.cell.off a mm; rw [h2]; exact fun z => nomatch z)
      obtain ⟨_, o2, h2, h3⟩ := w.cell.off a mm
      rw [expo_in mm, h2, z] at hh
      cases hh
      rcases m with m | m
      · rw [h3] at m; cases m
      · rw [h2] at m; cases m
    rw [hids_off n]
    exact z
/-- the general end of a call of a def that changes nothing -/
theorem call0 {δ : Type} {Rr : Rl δ} {y : δ} {Q : VK} (w : Wd c B H ks os) (q : ∀ v B2 H2, Same B B2 → Wd c B2 H2 ks os → Rr.f c.K c.Hs B2 v y → Q v H2) : ∀ v B' H', Stp [] (expo ks H B) H B' H' → Same B' H' → Rr.f c.K H B' v y → Q v H' := fun v B' H' st ex r => by
  obtain ⟨up, w2, k⟩ := after0 w st ex
  exact q v _ H' up w2 (Rr.fanti w.hs (k Rr v y r))
theorem ev_call0 {γ δ : Type} {as : γ → List Sv} {m : γ → Option δ} {Rr : Rl δ} {g : γ} {y : δ} {E : XK} {tl : TA} (ha : EvA c tl σ B ks o1 o2 Ss) (hl : ALe c ks o2 ks Ss (as g)) (hm : m g = some y) : Ev c (tCall (Pr0 c.K as m Rr) [] E tl) σ B ks o1 o2 (Rr.g c.K c.Hs y) := fun B1 H1 e w Q q =>
  ha B1 H1 e w _ fun vs B2 H2 e2 w2 ss => by
    show Pr0 c.K as m Rr (vs ++ []) H2 Q E
    rw [List.append_nil]
    exact ⟨g, y, expo ks H2 B2, p_le (P := fun _ _ => True) (vs := []) ss (hl B2 H2 w2), expo_to w2 ks, hm, call0 w2 fun v B3 H3 e3 w3 r => q v B3 H3 (e2.trans e3) w3 r⟩
theorem expo_nil {H B : Hp} : expo [] H B = B := funext fun a => expo_off (by simp)
theorem ev_call0a {γ δ : Type} {as : γ → List Sv} {m : γ → Option δ} {Rr : Rl δ} {g : γ} {y : δ} {E : XK} {tl : TA} (ha : EvA c tl σ B ks o1 o2 Ss) (hl : ALe c ks o2 [] Ss (as g)) (hm : m g = some y) : Ev c (tCall (Pr0a c.K as m Rr) [] E tl) σ B ks o1 o2 (Rr.s c.K y) := fun B1 H1 e w Q q =>
  ha B1 H1 e w _ fun vs B2 H2 e2 w2 ss => by
    show Pr0a c.K as m Rr (vs ++ []) H2 Q E
    rw [List.append_nil]
    have z := hl B2 H2 w2
    rw [expo_nil] at z
    refine ⟨g, y, B2, p_le (P := fun _ _ => True) (vs := []) ss z, w2.ex, hm, fun v B' H' st ex r => q v B' H' (e2.trans st.up) ⟨ex, w2.nd, ?_, w2.own, w2.st.trans ⟨st.up, st.old, fun a o h _ => st.keep a o h (by simp), st.tr⟩, fun a h => st.tr a (w2.hs a h)⟩ r⟩
    exact pmap w2.cell fun a s ⟨o, q1, q2, q3, q4⟩ => ⟨o, st.keep _ _ q1 (by simp), by rw [st.old a (by rw [q1]; exact fun z => nomatch z)]; exact q2, q3, s.mono st.up q4⟩
/-- a def that may raise, where it does not -/
theorem ev_callXok {γ δ : Type} {ga : Str → Addr} {as : γ → List Sv} {m : γ → Rs δ} {Rr : Rl δ} {g : γ} {y : δ} {E : XK} {tl : TA} (ha : EvA c tl σ B ks o1 o2 Ss) (hl : ALe c ks o2 ks Ss (as g)) (hm : m g = some (.ok y)) : Ev c (tCall (PrX c.K ga as m Rr) [] E tl) σ B ks o1 o2 (Rr.g c.K c.Hs y) := fun B1 H1 e w Q q =>
  ha B1 H1 e w _ fun vs B2 H2 e2 w2 ss => by
    show PrX c.K ga as m Rr (vs ++ []) H2 Q E
    rw [List.append_nil]
    exact ⟨g, .ok y, expo ks H2 B2, p_le (P := fun _ _ => True) (vs := []) ss (hl B2 H2 w2), expo_to w2 ks, hm, call0 w2 fun v B3 H3 e3 w3 r => q v B3 H3 (e2.trans e3) w3 r⟩
/-- .. and where it does: what follows, or what is raised -/
theorem callX {γ δ : Type} {ga : Str → Addr} {as : γ → List Sv} {m : γ → Rs δ} {Rr : Rl δ} {g : γ} {x : Xc} {E : XK} {tl : TA} {Q : VK} (w : Wd c B H ks o1) (ha : EvA (c.at H) tl σ B ks o1 o2 Ss) (hl : ALe (c.at H) ks o2 ks Ss (as g)) (hm : m g = some (.error x))
    (er : ∀ cls d B2 H2, Same B B2 → Wd c B2 H2 ks o2 → XR ga x cls d B2 → E cls d H2) : tCall (PrX c.K ga as m Rr) [] E tl σ H Q :=
  ha B H (Same.refl _) w.at _ fun vs B2 H2 e2 w2 ss => by
    show PrX c.K ga as m Rr (vs ++ []) H2 Q E
    rw [List.append_nil]
    refine ⟨g, .error x, expo ks H2 B2, p_le (P := fun _ _ => True) (vs := []) ss (hl B2 H2 w2), expo_to w2 ks, hm, fun cls d B' H' st ex r => ?_⟩
    obtain ⟨up, w3, _⟩ := after0 (w.un w2) st ex
    exact er cls d _ H' (e2.trans up) w3 (r.mono (imm_hids (w.un w2) st))
/-- a def that changes what stands at q, the i-th cell -/
theorem ev_call1 {γ δ ε : Type} {as : γ → Addr → List Sv} {Ci : γ → Cs} {m : γ → Option (δ × ε)} {Co : ε → Cs} {Rr : Rl δ} {g : γ} {z : δ × ε} {E : XK} {tl : TA} (i : Nat) (hk : ks[i]? = some q) (ha : EvA c tl σ B ks o1 o2 Ss) (ho : o2[i]? = some (Ci g)) (hl : ALe c ks o2 (ks.eraseIdx i) Ss (as g q)) (hm : m g = some z) (hC : CsI (Co z.2)) :
    Ev c (tCall (Pr1 c.K as Ci m Co Rr) [] E tl) σ B ks o1 (o2.set i (Co z.2)) (Rr.g c.K c.Hs z.1) := fun B1 H1 e w Q q0 =>
  ha B1 H1 e w _ fun vs B2 H2 e2 w2 ss => by
    show Pr1 c.K as Ci m Co Rr (vs ++ []) H2 Q E
    rw [List.append_nil]
    have sub : ∀ a ∈ ks.eraseIdx i, a ∈ ks := fun a h => List.mem_of_mem_eraseIdx h
    have nq : q ∉ ks.eraseIdx i := fun h => by
      have nd := w2.nd
      obtain ⟨hlt, hq⟩ := List.getElem?_eq_some_iff.mp hk
      obtain ⟨j, hj, hjq⟩ := List.mem_iff_getElem.mp h
      rw [List.getElem_eraseIdx] at hjq
      split at hjq
      · rename_i hji
        have := (List.getElem_inj nd).mp (hjq.trans hq.symm)
        omega
      · rename_i hji
        have := (List.getElem_inj nd).mp (hjq.trans hq.symm)
        omega
    obtain ⟨o, h1, b1, m1, c1⟩ := w2.cell.get hk ho
    have up0 := expo_same w2 sub
    refine ⟨g, q, z, expo (ks.eraseIdx i) H2 B2, o, p_le (P := fun _ _ => True) (vs := []) ss (hl B2 H2 w2), expo_to w2 _, h1, by rw [expo_off nq]; exact b1, m1, Cs.mono _ up0 c1, hm, fun v B' H' o' st ex h' m' c' r => ?_⟩
    have tr2 : ∀ a ∈ ks, H2 a ≠ none := fun a ha => by
      obtain ⟨_, o2', h2, _⟩ := w2.cell.off a ha
      rw [h2]; exact fun z => nomatch z
    have up : Same B2 (hids ks B') := fun a u h => by
      have n : a ∉ ks := fun mm => by rw [w2.off mm] at h; cases h
      rw [hids_off n]
      exact st.up a u (up0 a u h)
    have key : ∀ a, a ∉ ks → ∀ u, B' a = some u → hids ks B' a = some u := fun a n u h => by rw [hids_off n]; exact h
    have im : ∀ a u, B' a = some u → (isM u = false ∨ H2 a = none) → hids ks B' a = some u := fun a u hu mm => by
      refine key a (fun ha => ?_) u hu
      have hh : B' a = expo (ks.eraseIdx i) H2 B2 a := st.old a (tr2 a ha)
      obtain ⟨b0, o2', h2, h3⟩ := w2.cell.off a ha
      by_cases he : a ∈ ks.eraseIdx i
      · rw [expo_in he, h2, hu] at hh
        cases hh
        rcases mm with mm | mm
        · rw [h3] at mm; cases mm
        · rw [h2] at mm; cases mm
      · rw [expo_off he, b0, hu] at hh; cases hh
    have hne : ∀ a ∈ ks, a ≠ q → a ∉ [q] := fun a _ e => by simpa using e
    refine q0 v _ H' (e2.trans up) ⟨fun a u h => ?_, w2.nd, pset2 i w2.nd w2.cell hk (fun a u e ⟨o2', q1, q2, q3, q4⟩ => ?_) ⟨o', h', hids_in (List.mem_of_getElem? hk), m', hC _ _ _ (fun a u h m => im a u h (.inl m)) c'⟩, w2.own, ?_, fun a h => st.tr a (w2.hs a h)⟩ (Rr.fanti w2.hs (Rr.ftr im r))
    · by_cases m : a ∈ ks
      · rw [hids_in m] at h; cases h
      · rw [hids_off m] at h; exact ex a u h
    · exact ⟨o2', st.keep a o2' q1 (by simpa using e), by
        by_cases ma : a ∈ ks
        · exact hids_in ma
        · rw [hids_off ma, st.old a (by rw [q1]; exact fun z => nomatch z), expo_off (fun z => ma (sub a z))]; exact q2, q3, u.mono up q4⟩
    · refine ⟨w2.st.up.trans up, fun a h => ?_, fun a u h n => ?_, fun a h => st.tr a (w2.st.tr a h)⟩
      · have h2 := w2.st.tr a h
        by_cases ma : a ∈ ks
        · rw [hids_in ma, ← w2.st.old a h, w2.off ma]
        · rw [hids_off ma, st.old a h2, expo_off (fun z => ma (sub a z)), w2.st.old a h]
      · refine st.keep a u (w2.st.keep a u h n) fun e => ?_
        rw [List.mem_singleton] at e
        subst e
        rcases w2.own a (List.mem_of_getElem? hk) with z | z
        · exact n z
        · rw [z] at h; cases h
/-! ### a def's body -/
theorem Wd.start {K : Fg} (s : Same B H) : Wd ⟨K, H, B, [], H⟩ B H [] [] := ⟨s, List.nodup_nil, .nil, (fun a h => nomatch h), Stp.refl, fun _ h => h⟩
theorem Wd.start1 {K : Fg} {p : Addr} {o : HO} {s : Cs} (e : Same B H) (h : H p = some o) (n : B p = none) (m : isM o = true) (hs : s.p B o) : Wd ⟨K, H, B, [p], H⟩ B H [p] [s] :=
  ⟨e, by simp, .cons ⟨o, h, n, m, hs⟩ .nil, fun a h => .inl h, Stp.refl, fun _ h => h⟩
/-- the answer of a def: a value -/
theorem r_f {B2 : Hp} (w : Wd c B H ks os) (h : (R.g c.K H x).p v B2) : R.f c.K c.H0 B2 v x := R.fanti w.tr h
theorem r_n {xs : List α} {B2 : Hp} (w : Wd c B H ks os) (hi : Imm R) (h : (SN R c.K H xs).p v B2) : (rLst R).f c.K c.H0 B2 v xs := (rLst R).fanti w.tr (sn_g hi v B2 h)
/-- a cell of one's own is handed back -/
theorem r_o {xs : List α} (w : Wd c B H (q :: ks) (CL R c.K xs :: os)) (n : c.H0 q = none) (hi : Imm R) : ∃ B', Same B B' ∧ Wd c B' H ks os ∧ (rLst R).f c.K c.H0 B' (.ref q) xs := by
  obtain ⟨o, h1, ⟨vs, rfl, d⟩, up, w2⟩ := w.freeze n
  exact ⟨_, up, w2, q, vs, rfl, n, upd_same, pmap d fun _ _ z => hi _ _ _ _ _ (R.mono up z)⟩
theorem r_oa {xs : List α} (w : Wd c B H (q :: ks) (CL R c.K xs :: os)) (n : c.H0 q = none) : ∃ B', Same B B' ∧ Wd c B' H ks os ∧ (rLst R).r c.K B' (.ref q) xs := by
  obtain ⟨o, h1, ⟨vs, rfl, d⟩, up, w2⟩ := w.freeze n
  exact ⟨_, up, w2, q, vs, rfl, upd_same, pmap d fun _ _ z => R.mono up z⟩
end
end Dl

/-! Ev5 -/
set_option Elab.async false
set_option linter.all false
set_option maxRecDepth 100000
set_option maxHeartbeats 2000000
namespace Dl
open PySem PySem.Spec L2
theorem it {α : Type} {b : Bool} {x y : α} {z : α} (hb : b = true) (h : cond b x y = z) : x = z := by subst hb; exact h
theorem ie {α : Type} {b : Bool} {x y : α} {z : α} (hb : b = false) (h : cond b x y = z) : y = z := by subst hb; exact h
theorem ob {α β : Type} {o : Option α} {k : α → Option β} {z : β} (h : o.bind k = some z) : ∃ a, o = some a ∧ k a = some z := Option.bind_eq_some_iff.mp h
abbrev FnP (K : Fg) (x : Str) (st : Stmt) (f : Addr) (fd : FuncData) : Prop := FunD K x x (defArgs st) (defBody st) (defScope st) [] [] f fd
theorem pn1 {F : V → Sv → Prop} {vs : List V} {S0 : Sv} (h : Paired F vs [S0]) : ∃ v0, vs = [v0] ∧ F v0 S0 := by
  cases h with | cons a h => cases h; exact ⟨_, rfl, a⟩
theorem pn2 {F : V → Sv → Prop} {vs : List V} {S0 S1 : Sv} (h : Paired F vs [S0, S1]) : ∃ v0 v1, vs = [v0, v1] ∧ F v0 S0 ∧ F v1 S1 := by
  cases h with | cons a h => obtain ⟨v, rfl, b⟩ := pn1 h; exact ⟨_, _, rfl, a, b⟩
theorem pn3 {F : V → Sv → Prop} {vs : List V} {S0 S1 S2 : Sv} (h : Paired F vs [S0, S1, S2]) : ∃ v0 v1 v2, vs = [v0, v1, v2] ∧ F v0 S0 ∧ F v1 S1 ∧ F v2 S2 := by
  cases h with | cons a h => obtain ⟨v, v', rfl, b, c⟩ := pn2 h; exact ⟨_, _, _, rfl, a, b, c⟩
theorem pn4 {F : V → Sv → Prop} {vs : List V} {S0 S1 S2 S3 : Sv} (h : Paired F vs [S0, S1, S2, S3]) : ∃ v0 v1 v2 v3, vs = [v0, v1, v2, v3] ∧ F v0 S0 ∧ F v1 S1 ∧ F v2 S2 ∧ F v3 S3 := by
  cases h with | cons a h => obtain ⟨v, v', v'', rfl, b, c, d⟩ := pn3 h; exact ⟨_, _, _, _, rfl, a, b, c, d⟩
theorem pn5 {F : V → Sv → Prop} {vs : List V} {S0 S1 S2 S3 S4 : Sv} (h : Paired F vs [S0, S1, S2, S3, S4]) : ∃ v0 v1 v2 v3 v4, vs = [v0, v1, v2, v3, v4] ∧ F v0 S0 ∧ F v1 S1 ∧ F v2 S2 ∧ F v3 S3 ∧ F v4 S4 := by
  cases h with | cons a h => obtain ⟨v, v', v'', v3, rfl, b, c, d, e⟩ := pn4 h; exact ⟨_, _, _, _, _, rfl, a, b, c, d, e⟩
def okO {α : Type} (r : Rs α) : Option α := match r with | some (.ok y) => some y | _ => none
theorem okO_eq {α : Type} {r : Rs α} {y : α} (h : okO r = some y) : r = some (.ok y) := by
  unfold okO at h
  split at h
  · cases h; rfl
  · cases h
def catO {α : Type} (xs ys : List α) : Option (List α) := if xs.length + ys.length ≤ 1000000 then some (xs ++ ys) else none
def rngO (lo hi : Int) : Option (List Int) := if -1000000 ≤ lo ∧ lo ≤ 1000000 ∧ -1000000 ≤ hi ∧ hi ≤ 1000000 then some (rangeI lo hi) else none
theorem rngO_eq {lo hi : Int} {xs : List Int} (h : rngO lo hi = some xs) : (-1000000 ≤ lo ∧ lo ≤ 1000000 ∧ -1000000 ≤ hi ∧ hi ≤ 1000000) ∧ xs = rangeI lo hi := by
  unfold rngO at h
  split at h
  · rename_i hc; cases h; exact ⟨hc, rfl⟩
  · cases h
/-- the ascending arrangement -/
def ins1 (x : Int) : List Int → List Int
  | [] => [x]
  | y :: ys => if x ≤ y then x :: y :: ys else y :: ins1 x ys
def isort : List Int → List Int
  | [] => []
  | x :: xs => ins1 x (isort xs)
theorem ins1_perm (x : Int) : ∀ ys, (ins1 x ys).Perm (x :: ys)
  | [] => .refl _
  | y :: ys => by
    unfold ins1
    split
    · exact .refl _
    · exact ((ins1_perm x ys).cons y).trans (.swap x y ys)
theorem isort_perm : ∀ xs, (isort xs).Perm xs
  | [] => .refl _
  | x :: xs => (ins1_perm x _).trans ((isort_perm xs).cons x)
theorem ins1_sorted (x : Int) : ∀ ys, ys.Pairwise (· ≤ ·) → (ins1 x ys).Pairwise (· ≤ ·)
  | [], _ => by unfold ins1; simp
  | y :: ys, h => by
    unfold ins1
    rw [List.pairwise_cons] at h
    split
    · rename_i hc
      refine List.pairwise_cons.mpr ⟨fun z hz => ?_, List.pairwise_cons.mpr h⟩
      rcases List.mem_cons.mp hz with rfl | hz
      · exact hc
      · exact Int.le_trans hc (h.1 z hz)
    · rename_i hc
      refine List.pairwise_cons.mpr ⟨fun z hz => ?_, ins1_sorted x ys h.2⟩
      rcases List.mem_cons.mp ((ins1_perm x ys).mem_iff.mp hz) with rfl | hz
      · omega
      · exact h.1 z hz
theorem isort_sorted : ∀ xs, (isort xs).Pairwise (· ≤ ·)
  | [] => .nil
  | x :: xs => ins1_sorted x _ (isort_sorted xs)
theorem sorted_unique {xs ys : List Int} (p : xs.Perm ys) (hx : xs.Pairwise (· ≤ ·)) (hy : ys.Pairwise (· ≤ ·)) : xs = ys := p.eq_of_pairwise (fun a b _ _ h1 h2 => Int.le_antisymm h1 h2) hx hy
section
variable {c : Ct} {te ta tb tc : TE} {tt tu : TT} {tl tr : TA} {σ : L2.St} {B H : Hp} {ks : List Addr} {os o1 o2 o3 o4 : List Cs} {S T U : Sv} {Ss : List Sv} {i : Nat} {v : V} {r : R2} {α β : Type} {R : Rl α} {xs ys : List α} {x y : α} {q : Addr}
theorem ev_catO {z : List α} (ha : Ev c ta σ B ks o1 o2 S) (hb : Ev c tb σ B ks o2 o3 T) (hs : SrcL c ks o3 S R xs) (ht : SrcL c ks o3 T R ys) (h : catO xs ys = some z) : Ev c (tOp rCat ta tb) σ B ks o1 o3 (SN R c.K c.Hs z) := by
  unfold catO at h
  split at h
  · rename_i hl; cases h; exact ev_cat ha hb hs ht hl
  · cases h
theorem rgV_eq (a b : Int) : rgV a b = (rangeI a b).map V.int := by
  unfold rgV rangeI
  rw [List.map_map]
  rfl
theorem ev_rg {a b : Int} {te : St → Hp → (Int → Int → Hp → Prop) → Prop} {zs : List Int} (h : rngO a b = some zs) (k : ∀ B1 H1, Same B B1 → Wd c B1 H1 ks o1 → ∀ Q : Int → Int → Hp → Prop, (∀ B2 H2, Same B1 B2 → Wd c B2 H2 ks o2 → Q a b H2) → te σ H1 Q) : Ev c (tLstRg te) σ B ks o1 o2 (SN rInt c.K c.Hs zs) := fun B1 H1 e w Q q => by
  obtain ⟨hb, rfl⟩ := rngO_eq h
  refine k B1 H1 e w _ fun B2 H2 e2 w2 => ⟨⟨by omega, by omega, by omega, by omega, by omega⟩, ?_⟩
  rw [rgV_eq]
  exact new_list w2 (ints_p (c := c) (B := B2) _) fun v B3 H3 e3 w3 z => q v B3 H3 (e2.trans e3) w3 z
theorem ev_listR1 {b : Int} {zs : List Int} (ha : Ev c ta σ B ks o1 o2 (rInt.s c.K b)) (h : rngO 0 b = some zs) : Ev c (tLstRg (tRg1 ta)) σ B ks o1 o2 (SN rInt c.K c.Hs zs) :=
  ev_rg h fun B1 H1 e w Q q => ha B1 H1 e w _ fun v B2 H2 e2 w2 s => ⟨b, s, q B2 H2 e2 w2⟩
theorem ev_listR2 {a b : Int} {zs : List Int} (ha : Ev c ta σ B ks o1 o2 (rInt.s c.K a)) (hb : Ev c tb σ B ks o2 o3 (rInt.s c.K b)) (h : rngO a b = some zs) : Ev c (tLstRg (tRg2 ta tb)) σ B ks o1 o3 (SN rInt c.K c.Hs zs) :=
  ev_rg h fun B1 H1 e w Q q => ha B1 H1 e w _ fun v B2 H2 e2 w2 s => hb B2 H2 (e.trans e2) w2 _ fun v' B3 H3 e3 w3 s' => ⟨a, b, s, s', q B3 H3 (e2.trans e3) w3⟩
theorem ei_r1 {b : Int} {zs : List Int} (ha : Ev c ta σ B ks o1 o2 (rInt.s c.K b)) (h : rngO 0 b = some zs) : EvI c (iRng1 (tCons ta tNil)) σ B ks o1 o2 rInt zs := by
  obtain ⟨hb, rfl⟩ := rngO_eq h
  exact ei_rng1 (ea_cons ha ea_nil) ⟨by omega, by omega⟩
theorem ei_r2 {a b : Int} {zs : List Int} (ha : Ev c ta σ B ks o1 o2 (rInt.s c.K a)) (hb : Ev c tb σ B ks o2 o3 (rInt.s c.K b)) (h : rngO a b = some zs) : EvI c (iRng2 (tCons ta (tCons tb tNil))) σ B ks o1 o3 rInt zs := by
  obtain ⟨hb', rfl⟩ := rngO_eq h
  exact ei_rng2 (ea_cons ha (ea_cons hb ea_nil)) ⟨by omega, by omega, by omega, by omega⟩
theorem ev_sortI {ns : List Int} (ha : Ev c ta σ B ks o1 o2 S) (hs : SrcL c ks o2 S rInt ns) : Ev c (tCB (rSortedI c.K) (tCons ta tNil)) σ B ks o1 o2 (SN rInt c.K c.Hs (isort ns)) :=
  ev_cb1 ha fun x B2 H2 w s Q q => by
    obtain ⟨p, vs, rfl, a, _, d⟩ := hs x B2 H2 w s
    have e := pints d
    subst e
    refine ⟨p, ns, rfl, SqL.of a, fun ns' p' h1 h2 n => ?_⟩
    have e2 : ns' = isort ns := sorted_unique (h1.trans (isort_perm ns).symm) h2 (isort_sorted ns)
    subst e2
    exact new_list w (ints_p (c := c) (B := B2) _) q p' n
theorem ev_min2 {m n : Int} (ha : Ev c ta σ B ks o1 o2 (rInt.s c.K m)) (hb : Ev c tb σ B ks o2 o3 (rInt.s c.K n)) : Ev c (tCB (fun xs H Q => ∃ i j, xs = [.int i, .int j] ∧ Q (.int (if j < i then j else i)) H) (tCons ta (tCons tb tNil))) σ B ks o1 o3 (rInt.s c.K (if n < m then n else m)) := fun B1 H1 e w Q q =>
  ha B1 H1 e w _ fun x B2 H2 e2 w2 s => hb B2 H2 (e.trans e2) w2 _ fun y B3 H3 e3 w3 t => ⟨m, n, by rw [show x = .int m from s, show y = .int n from t], q _ B3 H3 (e2.trans e3) w3 rfl⟩
theorem ev_max2 {m n : Int} (ha : Ev c ta σ B ks o1 o2 (rInt.s c.K m)) (hb : Ev c tb σ B ks o2 o3 (rInt.s c.K n)) : Ev c (tCB (fun xs H Q => ∃ i j, xs = [.int i, .int j] ∧ Q (.int (if j > i then j else i)) H) (tCons ta (tCons tb tNil))) σ B ks o1 o3 (rInt.s c.K (if n > m then n else m)) := fun B1 H1 e w Q q =>
  ha B1 H1 e w _ fun x B2 H2 e2 w2 s => hb B2 H2 (e.trans e2) w2 _ fun y B3 H3 e3 w3 t => ⟨m, n, by rw [show x = .int m from s, show y = .int n from t], q _ B3 H3 (e2.trans e3) w3 rfl⟩
/-- chains -/
theorem ev_ch {g h : Int → Int → Bool} {l m n : Int} (ha : Ev c ta σ B ks o1 o2 (rInt.s c.K l)) (hb : Ev c tb σ B ks o2 o3 (rInt.s c.K m)) (hc : Ev c tc σ B ks o3 o3 (rInt.s c.K n)) : Ev c (tChain (rI0 fun i j => .bl (g i j)) (rI0 fun i j => .bl (h i j)) ta tb tc) σ B ks o1 o3 (rBool.s c.K (g l m && h m n)) := fun B1 H1 e w Q q =>
  ha B1 H1 e w _ fun x B2 H2 e2 w2 s => hb B2 H2 (e.trans e2) w2 _ fun y B3 H3 e3 w3 t => ⟨l, m, s, t, g l m, rfl, by
    cases hg : g l m with
    | true =>
      rw [if_pos rfl]
      exact hc B3 H3 ((e.trans e2).trans e3) w3 _ fun z B4 H4 e4 w4 u => ⟨m, n, t, u, q _ B4 H4 ((e2.trans e3).trans e4) w4 (by rw [hg]; rfl)⟩
    | false =>
      rw [if_neg (by decide)]
      exact q _ B3 H3 (e2.trans e3) w3 (by rw [hg]; rfl)⟩
theorem ev_ch_le_le {l m n : Int} (ha : Ev c ta σ B ks o1 o2 (rInt.s c.K l)) (hb : Ev c tb σ B ks o2 o3 (rInt.s c.K m)) (hc : Ev c tc σ B ks o3 o3 (rInt.s c.K n)) : Ev c (tChain (rI0 fun i j => .bl (decide (i ≤ j))) (rI0 fun i j => .bl (decide (i ≤ j))) ta tb tc) σ B ks o1 o3 (rBool.s c.K (decide (l ≤ m) && decide (m ≤ n))) := ev_ch (g := fun i j => decide (i ≤ j)) (h := fun i j => decide (i ≤ j)) ha hb hc
theorem ev_ch_le_lt {l m n : Int} (ha : Ev c ta σ B ks o1 o2 (rInt.s c.K l)) (hb : Ev c tb σ B ks o2 o3 (rInt.s c.K m)) (hc : Ev c tc σ B ks o3 o3 (rInt.s c.K n)) : Ev c (tChain (rI0 fun i j => .bl (decide (i ≤ j))) (rI0 fun i j => .bl (decide (i < j))) ta tb tc) σ B ks o1 o3 (rBool.s c.K (decide (l ≤ m) && decide (m < n))) := ev_ch (g := fun i j => decide (i ≤ j)) (h := fun i j => decide (i < j)) ha hb hc
theorem ev_ch_lt_lt {l m n : Int} (ha : Ev c ta σ B ks o1 o2 (rInt.s c.K l)) (hb : Ev c tb σ B ks o2 o3 (rInt.s c.K m)) (hc : Ev c tc σ B ks o3 o3 (rInt.s c.K n)) : Ev c (tChain (rI0 fun i j => .bl (decide (i < j))) (rI0 fun i j => .bl (decide (i < j))) ta tb tc) σ B ks o1 o3 (rBool.s c.K (decide (l < m) && decide (m < n))) := ev_ch (g := fun i j => decide (i < j)) (h := fun i j => decide (i < j)) ha hb hc
theorem ev_ch_lt_le {l m n : Int} (ha : Ev c ta σ B ks o1 o2 (rInt.s c.K l)) (hb : Ev c tb σ B ks o2 o3 (rInt.s c.K m)) (hc : Ev c tc σ B ks o3 o3 (rInt.s c.K n)) : Ev c (tChain (rI0 fun i j => .bl (decide (i < j))) (rI0 fun i j => .bl (decide (i ≤ j))) ta tb tc) σ B ks o1 o3 (rBool.s c.K (decide (l < m) && decide (m ≤ n))) := ev_ch (g := fun i j => decide (i < j)) (h := fun i j => decide (i ≤ j)) ha hb hc
/-- and, or with parts or changes behind -/
theorem ev_andO {a b : Bool} (h1 : Ev c ta σ B ks o1 o2 (rBool.s c.K a)) (h2 : a = true → Ev c tb σ B ks o2 o3 (rBool.s c.K b)) (h3 : a = false → b = false ∧ o2 = o3) : Ev c (tAndV ta tb) σ B ks o1 o3 (rBool.s c.K b) := fun B1 H1 e w Q q => h1 B1 H1 e w _ fun v B2 H2 e2 w2 s => ⟨a, s, by
  cases a with
  | true => exact h2 rfl B2 H2 (e.trans e2) w2 Q fun v B3 H3 e3 w3 s => q v B3 H3 (e2.trans e3) w3 s
  | false => obtain ⟨rfl, rfl⟩ := h3 rfl; exact q _ B2 H2 e2 w2 rfl⟩
theorem ev_orO {a b : Bool} (h1 : Ev c ta σ B ks o1 o2 (rBool.s c.K a)) (h2 : a = false → Ev c tb σ B ks o2 o3 (rBool.s c.K b)) (h3 : a = true → b = true ∧ o2 = o3) : Ev c (tOrV ta tb) σ B ks o1 o3 (rBool.s c.K b) := fun B1 H1 e w Q q => h1 B1 H1 e w _ fun v B2 H2 e2 w2 s => ⟨a, s, by
  cases a with
  | true => obtain ⟨rfl, rfl⟩ := h3 rfl; exact q _ B2 H2 e2 w2 rfl
  | false => exact h2 rfl B2 H2 (e.trans e2) w2 Q fun v B3 H3 e3 w3 s => q v B3 H3 (e2.trans e3) w3 s⟩
theorem et_andO {a b : Bool} (h1 : EvT c tt σ B ks o1 o2 a) (h2 : a = true → EvT c tu σ B ks o2 o3 b) (h3 : a = false → b = false ∧ o2 = o3) : EvT c (tAnd tt tu) σ B ks o1 o3 b := fun B1 H1 e w Q q => h1 B1 H1 e w _ fun B2 H2 e2 w2 => by
  cases a with
  | true => exact h2 rfl B2 H2 (e.trans e2) w2 Q fun B3 H3 e3 w3 => q B3 H3 (e2.trans e3) w3
  | false => obtain ⟨rfl, rfl⟩ := h3 rfl; exact q B2 H2 e2 w2
theorem et_orO {a b : Bool} (h1 : EvT c tt σ B ks o1 o2 a) (h2 : a = false → EvT c tu σ B ks o2 o3 b) (h3 : a = true → b = true ∧ o2 = o3) : EvT c (tOr tt tu) σ B ks o1 o3 b := fun B1 H1 e w Q q => h1 B1 H1 e w _ fun B2 H2 e2 w2 => by
  cases a with
  | true => obtain ⟨rfl, rfl⟩ := h3 rfl; exact q B2 H2 e2 w2
  | false => exact h2 rfl B2 H2 (e.trans e2) w2 Q fun B3 H3 e3 w3 => q B3 H3 (e2.trans e3) w3
theorem et_yes : EvT c tYes σ B ks os os true := fun B1 H1 e w Q q => q B1 H1 (Same.refl _) w
theorem ev_ifB {b : Bool} (h : EvT c tt σ B ks o1 o2 b) (h1 : Ev c ta σ B ks o2 o3 (R.s c.K x)) (h2 : Ev c tb σ B ks o2 o3 (R.s c.K y)) : Ev c (tIf tt ta tb) σ B ks o1 o3 (R.s c.K (cond b x y)) :=
  ev_if h (fun hb => by subst hb; exact h1) (fun hb => by subst hb; exact h2)
/-- the truth of a list -/
theorem et_tru (ha : Ev c ta σ B ks o1 o2 S) (hs : SrcL c ks o2 S R xs) : EvT c (fun σ H Q => ta σ H fun x H' => ∃ k, TruV c.K x H' k ∧ Q k H') σ B ks o1 o2 (!xs.isEmpty) := fun B1 H1 e w Q q => ha B1 H1 e w _ fun x B2 H2 e2 w2 s => by
  obtain ⟨p, vs, rfl, a, _, d⟩ := hs x B2 H2 w2 s
  refine ⟨!xs.isEmpty, Or.inl ⟨vs, SqL.of a, ?_⟩, q B2 H2 e2 w2⟩
  cases d <;> rfl
/-! ### comprehensions over a name -/
def lcT (R : Rl α) (K : Fg) (σ : L2.St) (j : Nat) (vs : List Nat) : α → Hp → L2.St → Prop := fun x B σ2 => ∃ v, σ2 = (wipe σ vs).set j (some v) ∧ (R.s K x).p v B
theorem lcT_mono (R : Rl α) (K : Fg) (σ : L2.St) (j : Nat) (vs : List Nat) : ∀ x B1 B2 σ2, Same B1 B2 → lcT R K σ j vs x B1 σ2 → lcT R K σ j vs x B2 σ2 := fun _ _ _ _ e ⟨v, a, b⟩ => ⟨v, a, R.mono e b⟩
theorem lcT_name {K : Fg} (hK : c.K = K) (j : Nat) (vs : List Nat) (hw : ∀ x, wipe ((wipe σ vs).set j (some x)) vs = wipe σ vs) : ∀ v x B' H' (ks' : List Addr) (os' : List Cs), Wd c B' H' ks' os' → R.r c.K B' v x → ∀ P : L2.St → Hp → Prop, (∀ σ2, wipe σ2 vs = wipe σ vs → lcT R K σ j vs x B' σ2 → P σ2 H') → gName j v (wipe σ vs) H' P :=
  fun v x B' H' ks' os' _ r P k => k _ (hw v) ⟨v, rfl, by rw [← hK]; exact r⟩
/-! ### list.index -/
def idxF (y : Int) : List Int → Option Nat
  | [] => none
  | x :: xs => if x = y then some 0 else (idxF y xs).map (· + 1)
def idxO (xs : List Int) (y : Int) : Option Int := (idxF y xs).map Int.ofNat
theorem idxF_spec {y : Int} : ∀ {xs : List Int} {k : Nat}, idxF y xs = some k → xs[k]? = some y ∧ ∀ m z, m < k → xs[m]? = some z → z ≠ y
  | [], _, h => by cases h
  | x :: xs, k, h => by
    unfold idxF at h
    split at h
    · rename_i hx; cases h; exact ⟨by simp [hx], fun m z hm => absurd hm (Nat.not_lt_zero _)⟩
    · rename_i hx
      obtain ⟨j, hj, rfl⟩ := Option.map_eq_some_iff.mp h
      obtain ⟨a, b⟩ := idxF_spec hj
      refine ⟨by simpa using a, fun m z hm hz => ?_⟩
      cases m with
      | zero => simp at hz; subst hz; exact hx
      | succ m => exact b m z (by omega) (by simpa using hz)
theorem ev_index {n z : Int} {ms : List Int} {T' : Sv} (ha : Ev c ta σ B ks o1 o2 S) (hb : Ev c tb σ B ks o2 o3 (rInt.s c.K n)) (hs1 : SrcL c ks o2 S rInt ms) (hs : SrcL c ks o3 S rInt ms) (h : idxO ms n = some z) : Ev c (tBM c.K "list" (rIndex c.K) ta (tCons tb tNil)) σ B ks o1 o3 (rInt.s c.K z) := fun B1 H1 e w Q q =>
  ha B1 H1 e w _ fun x B2 H2 e2 w2 s => by
    obtain ⟨p, vs, rfl, a, _, d⟩ := hs1 x B2 H2 w2 s
    refine ⟨ty_list a, hb B2 H2 (e.trans e2) w2 _ fun y B3 H3 e3 w3 t => ?_⟩
    obtain ⟨p', vs', ep, a', _, d'⟩ := hs _ B3 H3 w3 (S.mono e3 s)
    cases ep
    cases (show y = .int n from t)
    have ev := pints d'
    subst ev
    obtain ⟨k, hk, rfl⟩ := Option.map_eq_some_iff.mp h
    obtain ⟨k1, k2⟩ := idxF_spec hk
    refine ⟨p, _, .int n, k, .int n, rfl, rfl, SqL.of a', rfl, all_flat ms, by rw [List.getElem?_map, k1]; rfl, by show (n == n) = true; simp, fun m z' hm hz => ?_, q _ B3 H3 (e2.trans e3) w3 rfl⟩
    rw [List.getElem?_map] at hz
    cases hzm : ms[m]? with
    | none => rw [hzm] at hz; cases hz
    | some u =>
      rw [hzm] at hz; cases hz
      show (u == n) = false
      simpa using k2 m u hm hzm
/-! ### == of data -/
structure Dq (R : Rl α) where
  d : α → PyData
  k : Nat
  dp : ∀ {K : Fg} {B : Hp} {v : V} {x : α}, R.r K B v x → Dp K B v (d x)
  lay : ∀ x, (d x).canLay0 = true
  dep : ∀ x, (d x).depth ≤ k
  eq : ∀ x y, PyData.eqv (d x) (d y) = true ↔ x = y
def dqInt : Dq rInt := ⟨.int, 0, fun h => by cases (show _ = V.int _ from h); exact .int _, fun _ => rfl, fun _ => Nat.le_refl _, fun x y => by show (x == y) = true ↔ x = y; exact beq_iff_eq⟩
def dqBool : Dq rBool := ⟨.bool, 0, fun h => by cases (show _ = V.bl _ from h); exact .bl _, fun _ => rfl, fun _ => Nat.le_refl _, fun x y => by show (x == y) = true ↔ x = y; exact beq_iff_eq⟩
def dqUnit : Dq rUnit := ⟨fun _ => .none, 0, fun h => by cases (show _ = V.non from h); exact .non, fun _ => rfl, fun _ => Nat.le_refl _, fun x y => ⟨fun _ => rfl, fun _ => rfl⟩⟩
theorem dpall {K : Fg} {B : Hp} (D : Dq R) : ∀ {vs : List V} {xs : List α}, Paired (R.r K B) vs xs → DpAll K B vs (xs.map D.d)
  | _, _, .nil => .nil
  | _, _, .cons a b => .cons (D.dp a) (dpall D b)
theorem layall (D : Dq R) : ∀ xs : List α, PyData.canLayAll0 (xs.map D.d) = true
  | [] => by simp [PyData.canLayAll0]
  | x :: xs => by simp [PyData.canLayAll0, D.lay x, layall D xs]
theorem depall (D : Dq R) : ∀ xs : List α, PyData.depthAll (xs.map D.d) ≤ D.k
  | [] => by simp [PyData.depthAll]
  | x :: xs => by
    have h1 := D.dep x
    have h2 := depall D xs
    show max (PyData.depth (D.d x)) (PyData.depthAll (xs.map D.d)) ≤ D.k
    omega
theorem eqall (D : Dq R) : ∀ xs ys : List α, PyData.eqvAll (xs.map D.d) (ys.map D.d) = true ↔ xs = ys
  | [], [] => by simp [PyData.eqvAll]
  | [], y :: ys => by simp [PyData.eqvAll]
  | x :: xs, [] => by simp [PyData.eqvAll]
  | x :: xs, y :: ys => by
    show (PyData.eqv (D.d x) (D.d y) && PyData.eqvAll (xs.map D.d) (ys.map D.d)) = true ↔ _
    rw [Bool.and_eq_true, D.eq, eqall D xs ys, List.cons.injEq]
def dqLst (D : Dq R) : Dq (rLst R) := ⟨fun xs => .list (xs.map D.d), D.k + 1, fun ⟨p, vs, a, b, d⟩ => by subst a; exact .lst (SqL.of b) (dpall D d), fun xs => layall D xs, fun xs => Nat.succ_le_succ (depall D xs), fun xs ys => eqall D xs ys⟩
def dqTpl (D : Dq R) : Dq (rTpl R) := ⟨fun xs => .tuple (xs.map D.d), D.k + 1, fun ⟨p, vs, a, b, d⟩ => by subst a; exact .tup b (dpall D d), fun xs => layall D xs, fun xs => Nat.succ_le_succ (depall D xs), fun xs ys => eqall D xs ys⟩
def dqT2 {R' : Rl β} (D : Dq R) (D' : Dq R') : Dq (rT2 R R') := ⟨fun z => .tuple [D.d z.1, D'.d z.2], max D.k D'.k + 1, fun ⟨p, v1, v2, a, b, d1, d2⟩ => by subst a; exact .tup b (.cons (D.dp d1) (.cons (D'.dp d2) .nil)),
  fun z => by simp [PyData.canLay0, PyData.canLayAll0, D.lay, D'.lay], fun z => by
    have h1 := D.dep z.1
    have h2 := D'.dep z.2
    simp only [PyData.depth, PyData.depthAll]
    omega, fun x y => by
    show (PyData.eqv (D.d x.1) (D.d y.1) && (PyData.eqv (D'.d x.2) (D'.d y.2) && true)) = true ↔ x = y
    rw [Bool.and_eq_true, Bool.and_true, D.eq, D'.eq]
    exact ⟨fun ⟨a, b⟩ => Prod.ext a b, fun e => by subst e; exact ⟨rfl, rfl⟩⟩⟩
def dqT3 {γ : Type} {R' : Rl β} {R'' : Rl γ} (D : Dq R) (D' : Dq R') (D'' : Dq R'') : Dq (rT3 R R' R'') := ⟨fun z => .tuple [D.d z.1, D'.d z.2.1, D''.d z.2.2], max D.k (max D'.k D''.k) + 1, fun ⟨p, v1, v2, v3, a, b, d1, d2, d3⟩ => by subst a; exact .tup b (.cons (D.dp d1) (.cons (D'.dp d2) (.cons (D''.dp d3) .nil))),
  fun z => by simp [PyData.canLay0, PyData.canLayAll0, D.lay, D'.lay, D''.lay], fun z => by
    have h1 := D.dep z.1
    have h2 := D'.dep z.2.1
    have h3 := D''.dep z.2.2
    simp only [PyData.depth, PyData.depthAll]
    omega, fun x y => by
    show (PyData.eqv (D.d x.1) (D.d y.1) && (PyData.eqv (D'.d x.2.1) (D'.d y.2.1) && (PyData.eqv (D''.d x.2.2) (D''.d y.2.2) && true))) = true ↔ x = y
    rw [Bool.and_eq_true, Bool.and_eq_true, Bool.and_true, D.eq, D'.eq, D''.eq]
    exact ⟨fun ⟨a, b, c⟩ => Prod.ext a (Prod.ext b c), fun e => by subst e; exact ⟨rfl, rfl, rfl⟩⟩⟩
/-- where a value stands, to be compared -/
def SrcD (c : Ct) (ks : List Addr) (os : List Cs) (S : Sv) {α : Type} (R : Rl α) (x : α) : Prop := ∀ v B H, Wd c B H ks os → S.p v B → ∃ B', Same B' H ∧ R.r c.K B' v x
theorem srd_s : SrcD c ks os (R.s c.K x) R x := fun v B H w h => ⟨B, w.ex, h⟩
theorem srd_g : SrcD c ks os (R.g c.K c.Hs x) R x := fun v B H w h => ⟨B, w.ex, R.fr h⟩
theorem srd_n : SrcD c ks os (SN R c.K c.Hs xs) (rLst R) xs := fun v B H w h => ⟨B, w.ex, sn_s v B h⟩
theorem srd_o {q : Addr} (i : Nat) (hk : ks[i]? = some q) (ho : os[i]? = some (CL R c.K xs)) : SrcD c ks os (SA q) (rLst R) xs := fun v B H w h => by
  obtain ⟨o, h1, _, _, vs, rfl, d⟩ := w.cell.get hk ho
  exact ⟨expo ks H B, expo_to w ks, q, vs, h, by rw [expo_in (List.mem_of_getElem? hk)]; exact h1, pmap d fun _ _ z => R.mono (expo_same w fun _ z => z) z⟩
theorem sq_sl {K : Fg} {B B' : Hp} (e : Same B B') : ∀ {v : V} {d : PyData}, Dp K B v d → Dp K B' v d := fun h => by
  refine Dp.rec (motive_1 := fun v d _ => Dp K B' v d) (motive_2 := fun vs ds _ => DpAll K B' vs ds) ?_ ?_ ?_ ?_ ?_ ?_ ?_ ?_ h
  · exact .non
  · exact .bl
  · exact .int
  · exact .str
  · exact fun s _ d => .lst (Same.seq e s) d
  · exact fun s _ d => .tup (sqt_same e s) d
  · exact .nil
  · exact fun _ _ a b => .cons a b
theorem shp (D : Dq R) (hk : D.k ≤ 64) (x : α) : SeqAt.shaped (D.d x) = true := by
  unfold SeqAt.shaped
  rw [D.lay x, Bool.true_and]
  exact decide_eq_true (Nat.le_trans (D.dep x) hk)
theorem eqv_dec [DecidableEq α] (D : Dq R) (x y : α) : PyData.eqv (D.d x) (D.d y) = decide (x = y) := by
  by_cases h : x = y
  · rw [decide_eq_true h]; exact (D.eq x y).mpr h
  · rw [decide_eq_false h]
    cases z : PyData.eqv (D.d x) (D.d y) with
    | true => exact absurd ((D.eq x y).mp z) h
    | false => rfl
theorem ev_eqD [DecidableEq α] (D : Dq R) (ha : Ev c ta σ B ks o1 o2 S) (hb : Ev c tb σ B ks o2 o3 T) (hs : SrcD c ks o3 S R x) (ht : SrcD c ks o3 T R y) (hk : D.k ≤ 64 := by decide) : Ev c (tOp (rEqD c.K) ta tb) σ B ks o1 o3 (rBool.s c.K (decide (x = y))) :=
  ev_op0 ha hb fun a b B2 H2 w s t => by
    obtain ⟨B3, e3, r3⟩ := hs a B2 H2 w s
    obtain ⟨B4, e4, r4⟩ := ht b B2 H2 w t
    exact ⟨.bl (decide (x = y)), rfl, fun Q q => ⟨D.d x, D.d y, sq_sl e3 (D.dp r3), sq_sl e4 (D.dp r4), shp D hk x, shp D hk y, by rw [eqv_dec]; exact q⟩⟩
theorem ev_neD [DecidableEq α] (D : Dq R) (ha : Ev c ta σ B ks o1 o2 S) (hb : Ev c tb σ B ks o2 o3 T) (hs : SrcD c ks o3 S R x) (ht : SrcD c ks o3 T R y) (hk : D.k ≤ 64 := by decide) : Ev c (tOp (rNeD c.K) ta tb) σ B ks o1 o3 (rBool.s c.K (!decide (x = y))) :=
  ev_op0 ha hb fun a b B2 H2 w s t => by
    obtain ⟨B3, e3, r3⟩ := hs a B2 H2 w s
    obtain ⟨B4, e4, r4⟩ := ht b B2 H2 w t
    exact ⟨.bl (!decide (x = y)), rfl, fun Q q => ⟨D.d x, D.d y, sq_sl e3 (D.dp r3), sq_sl e4 (D.dp r4), shp D hk x, shp D hk y, by rw [eqv_dec]; exact q⟩⟩
theorem any_dec [DecidableEq α] (D : Dq R) (x : α) : ∀ ys : List α, ((ys.map D.d).any fun z => PyData.eqv z (D.d x)) = decide (x ∈ ys)
  | [] => rfl
  | y :: ys => by
    rw [List.map_cons, List.any_cons, any_dec D x ys, eqv_dec]
    by_cases h : x = y
    · subst h; simp
    · have h2 : ¬ y = x := fun e => h e.symm
      simp [h, h2]
theorem ev_inD [DecidableEq α] (D : Dq R) (ha : Ev c ta σ B ks o1 o2 (R.s c.K x)) (hb : Ev c tb σ B ks o2 o3 T) (ht : SrcL c ks o3 T R ys) (hk : D.k + 1 ≤ 64 := by decide) : Ev c (tOp (rInD c.K) ta tb) σ B ks o1 o3 (rBool.s c.K (decide (x ∈ ys))) :=
  ev_op0 ha hb fun a b B2 H2 w s t => by
    obtain ⟨p, vs, rfl, h, _, d⟩ := ht b B2 H2 w t
    exact ⟨.bl (decide (x ∈ ys)), rfl, fun Q q => ⟨D.d x, ys.map D.d, sq_sl w.ex (D.dp s), .lst (SqL.of h) (dpall D (pmap d fun _ _ z => R.mono w.ex z)), shp D (by omega) x, shp (dqLst D) hk ys, by rw [any_dec]; exact q⟩⟩
theorem ev_notInD [DecidableEq α] (D : Dq R) (ha : Ev c ta σ B ks o1 o2 (R.s c.K x)) (hb : Ev c tb σ B ks o2 o3 T) (ht : SrcL c ks o3 T R ys) (hk : D.k + 1 ≤ 64 := by decide) : Ev c (tOp (rNotInD c.K) ta tb) σ B ks o1 o3 (rBool.s c.K (!decide (x ∈ ys))) :=
  ev_op0 ha hb fun a b B2 H2 w s t => by
    obtain ⟨p, vs, rfl, h, _, d⟩ := ht b B2 H2 w t
    exact ⟨.bl (!decide (x ∈ ys)), rfl, fun Q q => ⟨D.d x, ys.map D.d, sq_sl w.ex (D.dp s), .lst (SqL.of h) (dpall D (pmap d fun _ _ z => R.mono w.ex z)), shp D (by omega) x, shp (dqLst D) hk ys, by rw [any_dec]; exact q⟩⟩
/-! ### what is not None -/
theorem nn_int : ∀ (K : Fg) (B : Hp) (v : V) (a : Int), rInt.r K B v a → v ≠ .non := fun K B v a h z => by cases (show v = V.int a from h); cases z
theorem nn_bool : ∀ (K : Fg) (B : Hp) (v : V) (a : Bool), rBool.r K B v a → v ≠ .non := fun K B v a h z => by cases (show v = V.bl a from h); cases z
theorem nn_lst : ∀ (K : Fg) (B : Hp) (v : V) (a : List α), (rLst R).r K B v a → v ≠ .non := fun K B v a h z => by obtain ⟨p, vs, h, _⟩ := h; rw [h] at z; cases z
theorem nn_tpl : ∀ (K : Fg) (B : Hp) (v : V) (a : List α), (rTpl R).r K B v a → v ≠ .non := fun K B v a h z => by obtain ⟨p, vs, h, _⟩ := h; rw [h] at z; cases z
theorem nn_t2 {R' : Rl β} : ∀ (K : Fg) (B : Hp) (v : V) (a : α × β), (rT2 R R').r K B v a → v ≠ .non := fun K B v a h z => by obtain ⟨p, v1, v2, h, _⟩ := h; rw [h] at z; cases z
/-! ### isinstance -/
theorem ev_isi {ty' : String} {t : Value} {b : Bool} (ha : Ev c ta σ B ks o1 o2 S) (ht : ∀ v B H, Wd c B H ks o2 → S.p v B → TyX c.K H v t) (hk : ∀ K, PySem.W.kitOne K t (.type ty') = some b) : Ev c (tCB (rIsi c.K) (tCons ta (tCons (tC (.ty ty')) tNil))) σ B ks o1 o2 (rBool.s c.K b) := fun B1 H1 e w Q q =>
  ha B1 H1 e w _ fun x B2 H2 e2 w2 s => ⟨x, .ty ty', t, _, b, rfl, .ty ty', ht x B2 H2 w2 s, hk _, q _ B2 H2 e2 w2 rfl⟩
theorem ev_isi_int {n : Int} {ty' : String} {b : Bool} (ha : Ev c ta σ B ks o1 o2 (rInt.s c.K n)) (hb : kitB "int" ty' = some b) : Ev c (tCB (rIsi c.K) (tCons ta (tCons (tC (.ty ty')) tNil))) σ B ks o1 o2 (rBool.s c.K b) :=
  ev_isi ha (fun v B H w s => by cases (show v = V.int n from s); exact .base (.int n)) fun K => kit_ty hb
theorem ev_isi_bool {n : Bool} {ty' : String} {b : Bool} (ha : Ev c ta σ B ks o1 o2 (rBool.s c.K n)) (hb : kitB "bool" ty' = some b) : Ev c (tCB (rIsi c.K) (tCons ta (tCons (tC (.ty ty')) tNil))) σ B ks o1 o2 (rBool.s c.K b) :=
  ev_isi ha (fun v B H w s => by cases (show v = V.bl n from s); exact .base (.bl n)) fun K => kit_ty hb
theorem ev_isi_list {ty' : String} {b : Bool} (ha : Ev c ta σ B ks o1 o2 S) (hs : SrcL c ks o2 S R xs) (hb : kitB "list" ty' = some b) : Ev c (tCB (rIsi c.K) (tCons ta (tCons (tC (.ty ty')) tNil))) σ B ks o1 o2 (rBool.s c.K b) :=
  ev_isi ha (fun v B H w s => by obtain ⟨p, vs, rfl, a, _⟩ := hs v B H w s; exact .base (.lst a)) fun K => kit_ty hb
end
end Dl

/-! Ev6 -/
set_option Elab.async false
set_option linter.all false
set_option maxRecDepth 100000
set_option maxHeartbeats 2000000
namespace Dl
open PySem PySem.Spec L2
theorem hu_of65 {A : Around} {k : Nat} (hr : Room k A) : A.units + 65 < cLine := by have := hr.un; omega
section
variable {c : Ct} {te ta tb tc : TE} {tt tu : TT} {tl tr : TA} {σ : L2.St} {B H : Hp} {ks : List Addr} {os o1 o2 o3 o4 : List Cs} {S T U : Sv} {Ss : List Sv} {i : Nat} {v : V} {r : R2} {α β : Type} {R : Rl α} {xs ys : List α} {x y : α} {q : Addr} {D : Ends}
theorem sle_trans (a : Sle S T) (b : Sle T U) : Sle S U := fun v B h => b v B (a v B h)
theorem s_opt {K : Fg} : Sle (R.s K x) ((rOpt R).s K (some x)) := fun _ _ h => h
theorem g_opt {K : Fg} {H0 : Hp} : Sle (R.g K H0 x) ((rOpt R).g K H0 (some x)) := fun _ _ h => h
theorem s_augI {j : Nat} {f : Int → Int → Int} {m n : Int} (w : Wd c B H ks o1) {v : V} (hx : σ[j]? = some (some v)) (hv : (rInt.s c.K m).p v B) (h : Ev (c.at H) te σ B ks o1 o2 (rInt.s c.K n)) (k : ∀ B2 H2, Same B B2 → Wd c B2 H2 ks o2 → D.nx (σ.set j (some (.int (f m n)))) H2) : tAug j te (ipI f) D σ H :=
  ⟨v, hx, h B H (Same.refl _) w.at _ fun v' B2 H2 e w2 s => ⟨m, n, hv, s, k B2 H2 e (w.un w2)⟩⟩
/-- raise C(n) -/
theorem s_raise {ga : Str → Addr} {cn f1 : Str} {n : Int} {E : XK} (w : Wd c B H ks o1) (h : EvA (c.at H) tl σ B ks o1 o2 [rInt.s c.K n]) (k : ∀ cls d B2 H2, Same B B2 → Wd c B2 H2 ks o2 → XR ga (.one cn f1 n) cls d B2 → E cls d H2) : Xi.tLow (ga cn) f1 tl σ H (fun cls d H' => E cls d H') :=
  h B H (Same.refl _) w.at _ fun vs B2 H2 e w2 ss => by
    obtain ⟨v, rfl, s⟩ := pn1 ss
    refine ⟨v, rfl, fun d hd => ?_⟩
    obtain ⟨up, w3⟩ := (w.un w2).new hd (.xd [(f1, v)])
    cases (show v = .int n from s)
    exact k _ _ _ _ (e.trans up) w3 ⟨rfl, d, rfl, upd_same⟩
theorem s_nul {ga : Str → Addr} {cn : Str} {E : XK} (w : Wd c B H ks o1) (k : ∀ cls d, XR ga (.nul cn) cls d H → E cls d H) : E (.ref (ga cn)) none H := k _ _ ⟨rfl, rfl⟩
end
/-- what is told of an own error class with one field -/
structure Kl (P : Program) (K : Fg) (mg : Str → Option Value) (x f1 : Str) : Prop where
  gl : mg x = some (.ref (He.ga K x))
  lo : ∃ fI fd a1, Xi.Low1 P K (He.ga K x) fI fd f1 a1
end Dl

/-! Ev7 -/
set_option Elab.async false
set_option linter.all false
set_option maxRecDepth 100000
set_option maxHeartbeats 2000000
namespace Dl
open PySem PySem.Spec L2
/-! the rules, the fragment said -/
section
variable {X : Cx} {K : Fg}
theorem kk {F : Fg → Prop} (h : X.K = K) (f : F X.K) : F K := h ▸ f
theorem ixl (h : X.K = K) : IxR X (rIxL K) := kk (F := fun K => IxR X (rIxL K)) h ix_list
theorem ixt (h : X.K = K) : IxR X (rIxT K) := kk (F := fun K => IxR X (rIxT K)) h ix_tup
theorem opin (h : X.K = K) : OpR X (compareOp .In) (rIn K false) := kk (F := fun K => OpR X (compareOp .In) (rIn K false)) h op_in_seq
theorem opnin (h : X.K = K) : OpR X (compareOp .NotIn) (rIn K true) := kk (F := fun K => OpR X (compareOp .NotIn) (rIn K true)) h op_notIn_seq
theorem opeqD (h : X.K = K) (hu : X.A.units + 64 < cLine) : OpR X (compareOp .Eq) (rEqD K) := kk (F := fun K => OpR X (compareOp .Eq) (rEqD K)) h (op_eqD hu)
theorem opneD (h : X.K = K) (hu : X.A.units + 64 < cLine) : OpR X (compareOp .NotEq) (rNeD K) := kk (F := fun K => OpR X (compareOp .NotEq) (rNeD K)) h (op_neD hu)
theorem opinD (h : X.K = K) (hu : X.A.units + 65 < cLine) : OpR X (compareOp .In) (rInD K) := kk (F := fun K => OpR X (compareOp .In) (rInD K)) h (op_inD hu)
theorem opninD (h : X.K = K) (hu : X.A.units + 65 < cLine) : OpR X (compareOp .NotIn) (rNotInD K) := kk (F := fun K => OpR X (compareOp .NotIn) (rNotInD K)) h (op_notInD hu)
theorem csum (h : X.K = K) (hc : X.calm = true) : CallR X (.builtin "sum") (rSum K) := kk (F := fun K => CallR X (.builtin "sum") (rSum K)) h (cr_sum hc)
theorem cany (h : X.K = K) (hc : X.calm = true) : CallR X (.builtin "any") (rAny K) := kk (F := fun K => CallR X (.builtin "any") (rAny K)) h (cr_any hc)
theorem call_ (h : X.K = K) (hc : X.calm = true) : CallR X (.builtin "all") (rAll K) := kk (F := fun K => CallR X (.builtin "all") (rAll K)) h (cr_all hc)
theorem cisi (h : X.K = K) : CallR X (.builtin "isinstance") (rIsi K) := kk (F := fun K => CallR X (.builtin "isinstance") (rIsi K)) h call_isi
theorem csrt (h : X.K = K) : CallR X (.builtin "sorted") (rSortedI K) := kk (F := fun K => CallR X (.builtin "sorted") (rSortedI K)) h cr_sortedI
theorem sll (h : X.K = K) : SlR X (rSlL K) := kk (F := fun K => SlR X (rSlL K)) h sl_list
theorem clen (h : X.K = K) : CallR X (.builtin "len") (fun xs H Q => ∃ p ys, xs = [.ref p] ∧ (SqL K H p ys ∨ SqT K H p ys) ∧ Q (.int ys.length) H) := h ▸ call_len_seq
theorem clst (h : X.K = K) : CallR X (.type "list") (fun xs H Q => ∃ p ys, xs = [.ref p] ∧ (SqL K H p ys ∨ SqT K H p ys) ∧ ∀ l, H l = none → Q (.ref l) (upd H l (.lst ys))) := h ▸ call_list_of
theorem ctup (h : X.K = K) : CallR X (.type "tuple") (fun xs H Q => ∃ p ys, xs = [.ref p] ∧ ((SqL K H p ys ∧ ∀ l, H l = none → Q (.ref l) (upd H l (.tup ys))) ∨ (SqT K H p ys ∧ Q (.ref p) H))) := h ▸ call_tuple_of
end
theorem finK_nx {ρ τ δ : Type} {k : ρ → Option δ} {kr : τ → Option δ} {r : ρ} {o : Option δ} (h : finK k kr (some (.nx r)) = o) : k r = o := h
end Dl

/-! Ev8 -/
set_option Elab.async false
set_option linter.all false
set_option maxRecDepth 100000
set_option maxHeartbeats 2000000
namespace Dl
open PySem PySem.Spec L2 PyProof.Rows
section
variable {X : Cx} {K : Fg}
theorem pgt {es : List Expr} {k : Nat} {t : TGs} {n : Nat} {pos : Pos} (h : X.K = K) (hc : X.calm = true) (hp : PGs X es t) (hn : (assignEach es X.env).length = n := by rfl) (hst : (assignEach es X.env).findIdx? (·.1) = none := by rfl) : PG X (.Tuple es k pos) (gTup K n t) :=
  kk (F := fun K => PG X (.Tuple es k pos) (gTup K n t)) h (pg_tup hc hp hn hst)
/-- set(x), x a tuple of ints -/
def rSetTI (K : Fg) (w : World) : List V → Hp → VK → Prop := fun xs H Q => ∃ (a : Addr) (ns : List Int), xs = [V.ref a] ∧ SqT K H a (ns.map V.int) ∧ ns.length + 1 < scanBound ∧
  ∀ (p : Addr) (n : Nat), H p = none → n ≤ ns.length → Q (.ref p) (upd H p (SetO w p (fun j => decide (j ∈ ns)) n))
theorem cr_setTI (hc : X.calm = true) : CallR X (.type "set") (rSetTI X.K X.w) := by
  intro pins s σ H xs us Q I r h
  obtain ⟨a, ns, rfl, ht, hb, q⟩ := h
  rw [Vals.ref1 r]
  obtain ⟨its, rv, p, hz⟩ := I.tuple ht
  refine call_set_tupI (l := a) ns (I.ok.hd hc) (show s.heap.IsTuple a its.toArray from p) (by simpa using intsAre_of rv) hb fun h' tk n R hn keep => ?_
  exact ⟨.ref _, _, I.laid (t' := tk) keep (Nat.le_refl _) (setO_new R), rfl, q _ n (I.hok.fresh (Nat.le_refl _)) hn⟩
end
/-- ascending, each once -/
def ins2 (x : Int) : List Int → List Int
  | [] => [x]
  | y :: ys => if x < y then x :: y :: ys else if x = y then y :: ys else y :: ins2 x ys
def usort : List Int → List Int
  | [] => []
  | x :: xs => ins2 x (usort xs)
theorem ins2_mem (x z : Int) : ∀ ys, z ∈ ins2 x ys ↔ z = x ∨ z ∈ ys
  | [] => by simp [ins2]
  | y :: ys => by
    unfold ins2
    split
    · simp
    · split
      · rename_i h; subst h; simp
      · simp [ins2_mem x z ys]
        constructor
        · rintro (h | h | h) <;> simp [h]
        · rintro (h | h | h) <;> simp [h]
theorem ins2_up (x : Int) : ∀ ys, ys.Pairwise (· < ·) → (ins2 x ys).Pairwise (· < ·)
  | [], _ => by simp [ins2]
  | y :: ys, h => by
    unfold ins2
    rw [List.pairwise_cons] at h
    split
    · rename_i hx
      refine List.pairwise_cons.mpr ⟨fun z hz => ?_, List.pairwise_cons.mpr h⟩
      rcases List.mem_cons.mp hz with rfl | hz
      · exact hx
      · exact Int.lt_trans hx (h.1 z hz)
    · split
      · exact List.pairwise_cons.mpr h
      · rename_i h1 h2
        refine List.pairwise_cons.mpr ⟨fun z hz => ?_, ins2_up x ys h.2⟩
        rcases (ins2_mem x z ys).mp hz with rfl | hz
        · omega
        · exact h.1 z hz
theorem usort_mem (z : Int) : ∀ xs, z ∈ usort xs ↔ z ∈ xs
  | [] => Iff.rfl
  | x :: xs => by
    show z ∈ ins2 x (usort xs) ↔ _
    rw [ins2_mem, usort_mem z xs, List.mem_cons]
theorem usort_up : ∀ xs, (usort xs).Pairwise (· < ·)
  | [] => .nil
  | x :: xs => ins2_up x _ (usort_up xs)
theorem up_unique {xs ys : List Int} (hx : xs.Pairwise (· < ·)) (hy : ys.Pairwise (· < ·)) (h : ∀ z, z ∈ xs ↔ z ∈ ys) : xs = ys := by
  have nd : ∀ {l : List Int}, l.Pairwise (· < ·) → l.Nodup := fun h => h.imp fun q e => by omega
  have le : ∀ {l : List Int}, l.Pairwise (· < ·) → l.Pairwise (· ≤ ·) := fun h => h.imp fun q => by omega
  exact sorted_unique ((List.perm_ext_iff_of_nodup (nd hx) (nd hy)).mpr h) (le hx) (le hy)
def sortSetO (ns : List Int) : Option (List Int) := if ns.length < 60 then some (usort ns) else none
def enumF {α : Type} (xs : List α) : Nat → List (Int × α)
  | n => match xs with
    | [] => []
    | x :: r => ((n : Int), x) :: enumF r (n + 1)
def enumL {α : Type} (xs : List α) : List (Int × α) := enumF xs 0
theorem enumF_get {α : Type} : ∀ (xs : List α) (n i : Nat), (enumF xs n)[i]? = (xs[i]?).map fun x => (((n + i : Nat) : Int), x)
  | [], n, i => by simp [enumF]
  | x :: r, n, 0 => by simp [enumF]
  | x :: r, n, i + 1 => by
    have e : n + 1 + i = n + (i + 1) := by omega
    show (enumF r (n + 1))[i]? = _
    rw [enumF_get r (n + 1) i, e]
    rfl
theorem enumF_len {α : Type} : ∀ (xs : List α) (n : Nat), (enumF xs n).length = xs.length
  | [], n => rfl
  | x :: r, n => congrArg (· + 1) (enumF_len r (n + 1))
def repO {α : Type} (xs : List α) (n : Int) : Option (List α) := if -1000000 ≤ n ∧ n ≤ 1000000 ∧ xs.length = 1 then some (List.replicate n.toNat xs).flatten else none
section
variable {c : Ct} {te ta tb tc : TE} {tt tu : TT} {tl tr : TA} {σ : L2.St} {B H : Hp} {ks : List Addr} {os o1 o2 o3 o4 : List Cs} {S T U : Sv} {Ss : List Sv} {i : Nat} {v : V} {r : R2} {α β γ : Type} {R : Rl α} {R' : Rl β} {R'' : Rl γ} {xs ys : List α} {x y : α} {q : Addr} {D : Ends}
theorem ev_sortSet {w : World} {ns z : List Int} (ha : Ev c ta σ B ks o1 o2 ((rTpl rInt).s c.K ns)) (h : sortSetO ns = some z) : Ev c (tCB (rSortedSet w) (tCons (tCB (rSetTI c.K w) (tCons ta tNil)) tNil)) σ B ks o1 o2 (SN rInt c.K c.Hs z) := fun B1 H1 e w1 Q k => by
  unfold sortSetO at h
  split at h
  · rename_i hl
    cases h
    refine ha B1 H1 e w1 _ fun v B2 H2 e2 w2 ⟨p, vs, a, b, d⟩ => ?_
    subst a
    have ev := pints d
    subst ev
    have hs : (60 : Nat) + 1 < scanBound := by decide
    refine ⟨p, ns, rfl, sqt_same w2.ex b, by omega, fun p' n hn hle => ?_⟩
    obtain ⟨up, w3⟩ := w2.new hn (SetO w p' (fun j => decide (j ∈ ns)) n)
    refine ⟨p', _, n, rfl, upd_same, by omega, fun ms p2 h1 h2 _ hp => ?_⟩
    have e3 : ms = usort ns := up_unique h1 (usort_up ns) fun z => by rw [h2, usort_mem]; exact decide_eq_true_iff
    subst e3
    exact new_list w3 (ints_p (c := c) (B := upd B2 p' (SetO w p' (fun j => decide (j ∈ ns)) n)) _) (fun v B4 H4 e4 w4 z => k v B4 H4 ((e2.trans up).trans e4) w4 z) p2 hp
  · cases h
/-- for i, x in enumerate(xs) -/
theorem ei_enum (ha : Ev c ta σ B ks o1 o2 S) (hp : ∀ v B, S.p v B → (∃ p vs, v = .ref p ∧ B p = some (.lst vs) ∧ Paired (R.r c.K B) vs xs)) : EvI c (iEnum c.K (tCons ta tNil)) σ B ks o1 o2 (rT2 rInt R) (enumL xs) := fun B1 H1 e w Rk k =>
  ha B1 H1 e w _ fun v B2 H2 e2 w2 s => by
    obtain ⟨p, vs, a, b, d⟩ := hp v B2 s
    subst a
    refine ⟨p, vs, rfl, SqL.of (w2.ex _ _ b), k _ B2 H2 e2 w2 fun c' i B3 H3 ks3 os3 hK e3 w3 => ⟨fun x hx => ?_, fun hl => ⟨vs, SqL.of (w3.ex _ _ (e3 _ _ b)), by rw [plen d]; rw [enumL, enumF_len] at hl; exact hl⟩⟩⟩
    rw [enumL, enumF_get] at hx
    cases hy : xs[i]? with
    | none => rw [hy] at hx; cases hx
    | some y =>
      rw [hy] at hx
      cases hx
      obtain ⟨u, hu, ru⟩ := pget d hy
      have hp2 := SqL.of (K := c.K) (w3.ex _ _ (e3 _ _ b))
      refine ⟨⟨vs, u, hp2, hu⟩, fun y' H' hy' => ?_⟩
      obtain ⟨T, x', e1, hT, e2', hx'⟩ := hy'
      have hv := hx' vs hp2
      rw [hu] at hv; cases hv
      subst e1 e2'
      obtain ⟨up, w4⟩ := w3.new hT (.tup [.int (i : Nat), u])
      refine ⟨_, up, w4, T, .int ((0 + i : Nat) : Int), u, rfl, ?_, rfl, ?_⟩
      · rw [Nat.zero_add]
        exact SqT.of upd_same
      · exact R.mono (e3.trans up) ru
theorem lp_s {K : Fg} : ∀ v B, ((rLst R).s K xs).p v B → (∃ p vs, v = .ref p ∧ B p = some (.lst vs) ∧ Paired (R.r K B) vs xs) := fun _ _ h => h
/-- a, b = v -/
theorem gt2 {K : Fg} {a b : Nat} {z : α × β} {P : L2.St → Hp → Prop} (h : (rT2 R R').r K B v z) (w : Same B H) (k : ∀ v1 v2, (R.s K z.1).p v1 B → (R'.s K z.2).p v2 B → P ((σ.set a (some v1)).set b (some v2)) H) : gTup K 2 (gCons (gName a) (gCons (gName b) gNil)) v σ H P := by
  obtain ⟨p, v1, v2, e1, hq, h1, h2⟩ := h
  exact ⟨p, _, e1, sqt_same w hq, rfl, v1, _, rfl, v2, _, rfl, rfl, k v1 v2 h1 h2⟩
def lcT2 (R : Rl α) (R' : Rl β) (K : Fg) (σ : L2.St) (a b : Nat) (vs : List Nat) : α × β → Hp → L2.St → Prop := fun x B σ2 => ∃ v1 v2, σ2 = ((wipe σ vs).set a (some v1)).set b (some v2) ∧ (R.s K x.1).p v1 B ∧ (R'.s K x.2).p v2 B
theorem lcT2_mono (R : Rl α) (R' : Rl β) (K : Fg) (σ : L2.St) (a b : Nat) (vs : List Nat) : ∀ x B1 B2 σ2, Same B1 B2 → lcT2 R R' K σ a b vs x B1 σ2 → lcT2 R R' K σ a b vs x B2 σ2 := fun _ _ _ _ e ⟨v1, v2, q, h1, h2⟩ => ⟨v1, v2, q, R.mono e h1, R'.mono e h2⟩
theorem lcT2_name {K : Fg} (hK : c.K = K) (a b : Nat) (vs : List Nat) (hw : ∀ x y, wipe (((wipe σ vs).set a (some x)).set b (some y)) vs = wipe σ vs) : ∀ v x B' H' (ks' : List Addr) (os' : List Cs), Wd c B' H' ks' os' → (rT2 R R').r c.K B' v x → ∀ P : L2.St → Hp → Prop, (∀ σ2, wipe σ2 vs = wipe σ vs → lcT2 R R' K σ a b vs x B' σ2 → P σ2 H') → gTup K 2 (gCons (gName a) (gCons (gName b) gNil)) v (wipe σ vs) H' P :=
  fun v x B' H' ks' os' w r P k => by
    rw [hK] at r
    exact gt2 r w.ex fun v1 v2 h1 h2 => k _ (hw v1 v2) ⟨v1, v2, rfl, h1, h2⟩
/-- [x] * n -/
theorem prep {F : V → α → Prop} {vs : List V} (h : Paired F vs xs) : ∀ n : Nat, Paired F (List.replicate n vs).flatten (List.replicate n xs).flatten
  | 0 => .nil
  | n + 1 => by
    rw [List.replicate_succ, List.replicate_succ, List.flatten_cons, List.flatten_cons]
    exact papp h (prep h n)
theorem rep_len {α : Type} {xs : List α} (h : xs.length = 1) : ∀ n : Nat, (List.replicate n xs).flatten.length = n
  | 0 => rfl
  | n + 1 => by rw [List.replicate_succ, List.flatten_cons, List.length_append, rep_len h n, h, Nat.add_comm]
theorem ev_rep {n : Int} {z : List α} (ha : Ev c ta σ B ks o1 o2 S) (hb : Ev c tb σ B ks o2 o3 (rInt.s c.K n)) (hs : SrcL c ks o3 S R xs) (h : repO xs n = some z) : Ev c (tOp rRep ta tb) σ B ks o1 o3 (SN R c.K c.Hs z) :=
  ev_op ha hb fun a b B2 H2 w s t Q k => by
    obtain ⟨p, vs, rfl, h1, _, d⟩ := hs a B2 H2 w s
    cases (show b = .int n from t)
    unfold repO at h
    split at h
    · rename_i hl
      cases h
      refine ⟨p, n, vs, rfl, rfl, h1, by omega, by omega, by rw [plen d, hl.2.2, sizeLine_eq]; omega, new_list w (prep d _) k⟩
    · cases h
theorem ev_rev (ha : Ev c ta σ B ks o1 o2 S) (hs : SrcL c ks o2 S R xs) : Ev c (tRevL c.K ta) σ B ks o1 o2 (SN R c.K c.Hs xs.reverse) := fun B1 H1 e w Q k =>
  ha B1 H1 e w _ fun v B2 H2 e2 w2 s => by
    obtain ⟨p, vs, rfl, h1, _, d⟩ := hs v B2 H2 w2 s
    have dr : ∀ {vs : List V} {xs : List α}, Paired (R.r c.K B2) vs xs → Paired (R.r c.K B2) vs.reverse xs.reverse := by
      intro vs xs h
      induction h with
      | nil => exact .nil
      | cons a b ih =>
        rw [List.reverse_cons, List.reverse_cons]
        exact papp ih (.cons a .nil)
    exact ⟨p, vs, rfl, SqL.of h1, new_list w2 (dr d) fun v B3 H3 e3 w3 z => k v B3 H3 (e2.trans e3) w3 z⟩
/-! ### one kind or another -/
def rEi (R : Rl α) (R' : Rl β) : Rl (α ⊕ β) where
  r K B v x := match x with | .inl a => R.r K B v a | .inr b => R'.r K B v b
  f K H B v x := match x with | .inl a => R.f K H B v a | .inr b => R'.f K H B v b
  mono {K B B' v x} e h := by cases x with | inl a => exact R.mono e h | inr b => exact R'.mono e h
  fr {K H B v x} h := by cases x with | inl a => exact R.fr h | inr b => exact R'.fr h
  ftr {K H B B2 v x} e h := by cases x with | inl a => exact R.ftr e h | inr b => exact R'.ftr e h
  fanti {K H H0 B v x} e h := by cases x with | inl a => exact R.fanti e h | inr b => exact R'.fanti e h
theorem imm_Ei {α β : Type} {R : Rl α} {R' : Rl β} (i : Imm R) (j : Imm R') : Imm (rEi R R') := fun K H B v x h => by cases x with | inl a => exact i _ _ _ _ _ h | inr b => exact j _ _ _ _ _ h
def inlO : α ⊕ β → Option α | .inl a => some a | .inr _ => none
def inrO : α ⊕ β → Option β | .inl _ => none | .inr b => some b
theorem s_inl {K : Fg} : Sle (R.s K x) ((rEi R R').s K (.inl x)) := fun _ _ h => h
theorem s_inr {K : Fg} {y : β} : Sle (R'.s K y) ((rEi R R').s K (.inr y)) := fun _ _ h => h
theorem g_inl {K : Fg} : Sle (R.g K H x) ((rEi R R').g K H (.inl x)) := fun _ _ h => h
theorem g_inr {K : Fg} {y : β} : Sle (R'.g K H y) ((rEi R R').g K H (.inr y)) := fun _ _ h => h
theorem c_inl {K : Fg} {z : α ⊕ β} (h : inlO z = some x) : Sle ((rEi R R').s K z) (R.s K x) := by
  cases z with
  | inl a => cases h; exact fun _ _ h => h
  | inr b => cases h
theorem c_inr {K : Fg} {z : α ⊕ β} {y : β} (h : inrO z = some y) : Sle ((rEi R R').s K z) (R'.s K y) := by
  cases z with
  | inl a => cases h
  | inr b => cases h; exact fun _ _ h => h
theorem s_T2 {K : Fg} {R2 : Rl γ} {z : β} {y : γ} (h : Sle (R'.s K z) (R2.s K y)) : Sle ((rT2 R R').s K (x, z)) ((rT2 R R2).s K (x, y)) := fun v B ⟨p, v1, v2, a, b, d, e⟩ => ⟨p, v1, v2, a, b, d, h _ _ e⟩
def sndO (f : β → Option γ) (z : α × β) : Option (α × γ) := (f z.2).map fun y => (z.1, y)
theorem c_T2 {K : Fg} {R2 : Rl γ} {f : β → Option γ} {z : α × β} {y : α × γ} (k : ∀ b d, f b = some d → Sle (R'.s K b) (R2.s K d)) (h : sndO f z = some y) : Sle ((rT2 R R').s K z) ((rT2 R R2).s K y) := by
  obtain ⟨a, b⟩ := z
  obtain ⟨d, hd, rfl⟩ := Option.map_eq_some_iff.mp h
  exact s_T2 (k _ _ hd)
def allO (f : α → Option β) : List α → Option (List β)
  | [] => some []
  | x :: xs => match f x, allO f xs with | some y, some ys => some (y :: ys) | _, _ => none
theorem allO_p {f : α → Option β} {F : V → α → Prop} {G : V → β → Prop} (k : ∀ v a b, f a = some b → F v a → G v b) : ∀ {vs : List V} {xs : List α} {ys : List β}, allO f xs = some ys → Paired F vs xs → Paired G vs ys
  | _, [], _, h, .nil => by cases h; exact .nil
  | _, x :: xs, ys, h, .cons a t => by
    unfold allO at h
    split at h
    · rename_i y ys' h1 h2
      cases h
      exact .cons (k _ _ _ h1 a) (allO_p k h2 t)
    · cases h
theorem c_lst {K : Fg} {f : α → Option β} {zs : List β} (k : ∀ b d, f b = some d → Sle (R.s K b) (R'.s K d)) (h : allO f xs = some zs) : Sle ((rLst R).s K xs) ((rLst R').s K zs) := fun v B ⟨p, vs, a, b, d⟩ => ⟨p, vs, a, b, allO_p (fun v x y e q => k x y e v B q) h d⟩
theorem c_tpl {K : Fg} {f : α → Option β} {zs : List β} (k : ∀ b d, f b = some d → Sle (R.s K b) (R'.s K d)) (h : allO f xs = some zs) : Sle ((rTpl R).s K xs) ((rTpl R').s K zs) := fun v B ⟨p, vs, a, b, d⟩ => ⟨p, vs, a, b, allO_p (fun v x y e q => k x y e v B q) h d⟩
theorem c_lstN {K : Fg} {f : α → Option β} {zs : List β} (k : ∀ b d, f b = some d → Sle (R.s K b) (R'.s K d)) (h : allO f xs = some zs) : Sle (SN R K H xs) (SN R' K H zs) := fun v B ⟨p, vs, a, n, b, d⟩ => ⟨p, vs, a, n, b, allO_p (fun v x y e q => k x y e v B q) h d⟩
def idO (x : Option α) : Option α := x
theorem c_opt {K : Fg} : ∀ (b : Option α) (d : α), idO b = some d → Sle ((rOpt R).s K b) (R.s K d) := fun b d h => by cases (show b = some d from h); exact fun _ _ h => h
def dqOptI : Dq (rOpt rInt) := ⟨fun x => match x with | none => .none | some i => .int i, 0, fun {K B v x} h => by
    cases x with
    | none => cases (show v = .non from h); exact .non
    | some i => cases (show v = .int i from h); exact .int i, fun x => by cases x <;> rfl, fun x => by cases x <;> exact Nat.le_refl _, fun x y => by
    cases x with
    | none => cases y with
      | none => exact ⟨fun _ => rfl, fun _ => rfl⟩
      | some j => exact ⟨fun h => (nomatch h), fun h => nomatch h⟩
    | some i => cases y with
      | none => exact ⟨fun h => (nomatch h), fun h => nomatch h⟩
      | some j =>
        show (i == j) = true ↔ some i = some j
        rw [beq_iff_eq, Option.some.injEq]⟩
/-- short words -/
def Tag := { s : Str // (PyData.str s).canLay0 = true }
instance : DecidableEq Tag := fun a b => decidable_of_iff (a.1 = b.1) ⟨Subtype.ext, fun h => congrArg _ h⟩
def tg (s : Str) (h : (PyData.str s).canLay0 = true) : Tag := ⟨s, h⟩
def rTag : Rl Tag := flat fun v s => v = .str s.1
theorem ev_tag (t : Tag) : Ev c (tC (.str t.1)) σ B ks os os (rTag.s c.K t) := ev_c fun _ => rfl
def dqTag : Dq rTag := ⟨fun t => .str t.1, 0, fun h => by cases (show _ = V.str _ from h); exact .str _, fun t => t.2, fun _ => Nat.le_refl _, fun x y => by
  show (x.1 == y.1) = true ↔ x = y
  rw [beq_iff_eq]
  exact ⟨Subtype.ext, fun h => congrArg _ h⟩⟩
theorem nn_tag : ∀ (K : Fg) (B : Hp) (v : V) (a : Tag), rTag.r K B v a → v ≠ .non := fun K B v a h z => by cases (show v = V.str a.1 from h); cases z
def memD {α : Type} [DecidableEq α] (x : α) (xs : List α) : Bool := decide (x ∈ xs)
theorem ev_inM [DecidableEq α] (Dd : Dq R) (ha : Ev c ta σ B ks o1 o2 (R.s c.K x)) (hb : Ev c tb σ B ks o2 o3 T) (ht : SrcL c ks o3 T R ys) (hk : Dd.k + 1 ≤ 64 := by decide) : Ev c (tOp (rInD c.K) ta tb) σ B ks o1 o3 (rBool.s c.K (memD x ys)) := ev_inD Dd ha hb ht hk
theorem ev_notInM [DecidableEq α] (Dd : Dq R) (ha : Ev c ta σ B ks o1 o2 (R.s c.K x)) (hb : Ev c tb σ B ks o2 o3 T) (ht : SrcL c ks o3 T R ys) (hk : Dd.k + 1 ≤ 64 := by decide) : Ev c (tOp (rNotInD c.K) ta tb) σ B ks o1 o3 (rBool.s c.K (!memD x ys)) := ev_notInD Dd ha hb ht hk
def idxG [DecidableEq α] (y : α) : List α → Option Nat
  | [] => none
  | x :: xs => if x = y then some 0 else (idxG y xs).map (· + 1)
theorem idxG_spec [DecidableEq α] {y : α} : ∀ {xs : List α} {k : Nat}, idxG y xs = some k → xs[k]? = some y ∧ ∀ m z, m < k → xs[m]? = some z → z ≠ y
  | [], _, h => by cases h
  | x :: xs, k, h => by
    unfold idxG at h
    split at h
    · rename_i hx; cases h; exact ⟨by simp [hx], fun m z hm => absurd hm (Nat.not_lt_zero _)⟩
    · rename_i hx
      obtain ⟨j, hj, rfl⟩ := Option.map_eq_some_iff.mp h
      obtain ⟨a, b⟩ := idxG_spec hj
      refine ⟨by simpa using a, fun m z hm hz => ?_⟩
      cases m with
      | zero => simp at hz; subst hz; exact hx
      | succ m => exact b m z (by omega) (by simpa using hz)
def idxGO [DecidableEq α] (xs : List α) (y : α) : Option Int := (idxG y xs).map Int.ofNat
theorem ev_indexD [DecidableEq α] (Dd : Dq R) {z : Int} (ha : Ev c ta σ B ks o1 o2 S) (hb : Ev c tb σ B ks o2 o3 (R.s c.K y)) (hs1 : SrcL c ks o2 S R xs) (hs : SrcL c ks o3 S R xs) (h : idxGO xs y = some z) (hk : Dd.k + 1 ≤ 64 := by decide) : Ev c (tBM c.K "list" (rIndexD c.K) ta (tCons tb tNil)) σ B ks o1 o3 (rInt.s c.K z) := fun B1 H1 e w Q q =>
  ha B1 H1 e w _ fun x B2 H2 e2 w2 s => by
    obtain ⟨p, vs, rfl, a, _, d⟩ := hs1 x B2 H2 w2 s
    refine ⟨ty_list a, hb B2 H2 (e.trans e2) w2 _ fun y' B3 H3 e3 w3 t => ?_⟩
    obtain ⟨p', vs', ep, a', _, d'⟩ := hs _ B3 H3 w3 (S.mono e3 s)
    cases ep
    obtain ⟨k, hk', rfl⟩ := Option.map_eq_some_iff.mp h
    obtain ⟨k1, k2⟩ := idxG_spec hk'
    refine ⟨p, y', Dd.d y, xs.map Dd.d, k, Dd.d y, rfl, rfl, .lst (SqL.of a') (dpall Dd (pmap d' fun _ _ z => R.mono w3.ex z)), sq_sl w3.ex (Dd.dp t), shp (dqLst Dd) hk xs, shp Dd (by omega) y, by rw [List.getElem?_map, k1]; rfl, by rw [eqv_dec]; exact decide_eq_true rfl, fun m z' hm hz => ?_, q _ B3 H3 (e2.trans e3) w3 rfl⟩
    rw [List.getElem?_map] at hz
    cases hzm : xs[m]? with
    | none => rw [hzm] at hz; cases hz
    | some u =>
      rw [hzm] at hz; cases hz
      rw [eqv_dec]
      exact decide_eq_false (k2 m u hm hzm)
/-- four things -/
def rT4 {α β γ δ : Type} (R1 : Rl α) (R2 : Rl β) (R3 : Rl γ) (R4 : Rl δ) : Rl (α × β × γ × δ) where
  r K B v x := ∃ p v1 v2 v3 v4, v = .ref p ∧ SqT K B p [v1, v2, v3, v4] ∧ R1.r K B v1 x.1 ∧ R2.r K B v2 x.2.1 ∧ R3.r K B v3 x.2.2.1 ∧ R4.r K B v4 x.2.2.2
  f K H B v x := ∃ p v1 v2 v3 v4, v = .ref p ∧ SqT K B p [v1, v2, v3, v4] ∧ R1.f K H B v1 x.1 ∧ R2.f K H B v2 x.2.1 ∧ R3.f K H B v3 x.2.2.1 ∧ R4.f K H B v4 x.2.2.2
  mono e h := let ⟨p, v1, v2, v3, v4, a, b, c1, c2, c3, c4⟩ := h; ⟨p, v1, v2, v3, v4, a, sqt_same e b, R1.mono e c1, R2.mono e c2, R3.mono e c3, R4.mono e c4⟩
  fr h := let ⟨p, v1, v2, v3, v4, a, b, c1, c2, c3, c4⟩ := h; ⟨p, v1, v2, v3, v4, a, b, R1.fr c1, R2.fr c2, R3.fr c3, R4.fr c4⟩
  ftr e h := let ⟨p, v1, v2, v3, v4, a, b, c1, c2, c3, c4⟩ := h; ⟨p, v1, v2, v3, v4, a, sqt_tr e b, R1.ftr e c1, R2.ftr e c2, R3.ftr e c3, R4.ftr e c4⟩
  fanti e h := let ⟨p, v1, v2, v3, v4, a, b, c1, c2, c3, c4⟩ := h; ⟨p, v1, v2, v3, v4, a, b, R1.fanti e c1, R2.fanti e c2, R3.fanti e c3, R4.fanti e c4⟩
theorem imm_T4 {α β γ δ : Type} {R1 : Rl α} {R2 : Rl β} {R3 : Rl γ} {R4 : Rl δ} (i1 : Imm R1) (i2 : Imm R2) (i3 : Imm R3) (i4 : Imm R4) : Imm (rT4 R1 R2 R3 R4) := fun _ _ _ _ _ ⟨p, v1, v2, v3, v4, a, b, c1, c2, c3, c4⟩ => ⟨p, v1, v2, v3, v4, a, b, i1 _ _ _ _ _ c1, i2 _ _ _ _ _ c2, i3 _ _ _ _ _ c3, i4 _ _ _ _ _ c4⟩
section
variable {δ : Type} {R4 : Rl δ} {z4 : α × β × γ × δ}
theorem ev_T4 {x1 : α} {x2 : β} {x3 : γ} {x4 : δ} (ha : EvA c tl σ B ks o1 o2 [R.s c.K x1, R'.s c.K x2, R''.s c.K x3, R4.s c.K x4]) : Ev c (tTup tl) σ B ks o1 o2 ((rT4 R R' R'' R4).s c.K (x1, x2, x3, x4)) := fun B1 H1 e w Q k => ha B1 H1 e w _ fun vs B2 H2 e2 w2 ss => by
  obtain ⟨v1, v2, v3, v4, rfl, h1, h2, h3, h4⟩ := pn4 ss
  exact ⟨by show 4 ≤ sizeLine; decide, new_tup w2 fun v B3 H3 e3 w3 ⟨p, a, b⟩ => k v B3 H3 (e2.trans e3) w3 ⟨p, _, _, _, _, a, SqT.of b, R.mono e3 h1, R'.mono e3 h2, R''.mono e3 h3, R4.mono e3 h4⟩⟩
theorem ev_lenT4 (ha : Ev c ta σ B ks o1 o2 ((rT4 R R' R'' R4).s c.K z4)) : Ev c (tCB (fun xs H Q => ∃ p ys, xs = [.ref p] ∧ (SqL c.K H p ys ∨ SqT c.K H p ys) ∧ Q (.int ys.length) H) (tCons ta tNil)) σ B ks o1 o2 (rInt.s c.K (4 : Int)) :=
  ev_cb1 ha fun x B2 H2 w ⟨p, v1, v2, v3, v4, a, b, _⟩ Q k => ⟨p, _, by rw [a], .inr (sqt_same w.ex b), k _ B2 H2 (Same.refl _) w rfl⟩
theorem ev_T4a (ha : Ev c ta σ B ks o1 o2 ((rT4 R R' R'' R4).s c.K z4)) : Ev c (tOp (rIxT c.K) ta (tC (.int 0))) σ B ks o1 o2 (R.s c.K z4.1) :=
  ev_op0 ha ev_int fun a b B2 H2 w ⟨p, v1, v2, v3, v4, e, h, d1, d2, d3, d4⟩ t => ⟨v1, d1, fun Q k => ⟨p, _, 0, v1, e, t, sqt_same w.ex h, rfl, k⟩⟩
theorem ev_T4b (ha : Ev c ta σ B ks o1 o2 ((rT4 R R' R'' R4).s c.K z4)) : Ev c (tOp (rIxT c.K) ta (tC (.int 1))) σ B ks o1 o2 (R'.s c.K z4.2.1) :=
  ev_op0 ha ev_int fun a b B2 H2 w ⟨p, v1, v2, v3, v4, e, h, d1, d2, d3, d4⟩ t => ⟨v2, d2, fun Q k => ⟨p, _, 1, v2, e, t, sqt_same w.ex h, rfl, k⟩⟩
theorem ev_T4c (ha : Ev c ta σ B ks o1 o2 ((rT4 R R' R'' R4).s c.K z4)) : Ev c (tOp (rIxT c.K) ta (tC (.int 2))) σ B ks o1 o2 (R''.s c.K z4.2.2.1) :=
  ev_op0 ha ev_int fun a b B2 H2 w ⟨p, v1, v2, v3, v4, e, h, d1, d2, d3, d4⟩ t => ⟨v3, d3, fun Q k => ⟨p, _, 2, v3, e, t, sqt_same w.ex h, rfl, k⟩⟩
theorem ev_T4d (ha : Ev c ta σ B ks o1 o2 ((rT4 R R' R'' R4).s c.K z4)) : Ev c (tOp (rIxT c.K) ta (tC (.int 3))) σ B ks o1 o2 (R4.s c.K z4.2.2.2) :=
  ev_op0 ha ev_int fun a b B2 H2 w ⟨p, v1, v2, v3, v4, e, h, d1, d2, d3, d4⟩ t => ⟨v4, d4, fun Q k => ⟨p, _, 3, v4, e, t, sqt_same w.ex h, rfl, k⟩⟩
end
/-! ### what is handed in is changed, the answer may be any -/
def Pr1a {γ δ ε : Type} (K : Fg) (as : γ → Addr → List Sv) (Ci : γ → Cs) (m : γ → Option (δ × ε)) (Co : ε → Cs) (Rr : Rl δ) : Sp := fun vs H Q _ => ∃ g p z B o, Paired (fun v S => Sv.p S v B) vs (as g p) ∧ Same B H ∧ H p = some o ∧ B p = none ∧ isM o = true ∧ (Ci g).p B o ∧ m g = some z ∧
  ∀ v B' H' o', Stp [p] B H B' H' → Same B' H' → H' p = some o' → isM o' = true → (Co z.2).p B' o' → Rr.r K B' v z.1 → Q v H'
theorem ev_call1a {γ δ ε : Type} {as : γ → Addr → List Sv} {Ci : γ → Cs} {m : γ → Option (δ × ε)} {Co : ε → Cs} {Rr : Rl δ} {g : γ} {z : δ × ε} {E : XK} {tl : TA} (i : Nat) (hk : ks[i]? = some q) (ha : EvA c tl σ B ks o1 o2 Ss) (ho : o2[i]? = some (Ci g)) (hl : ALe c ks o2 [] Ss (as g q)) (hm : m g = some z) :
    Ev c (tCall (Pr1a c.K as Ci m Co Rr) [] E tl) σ B ks o1 (o2.set i (Co z.2)) (Rr.s c.K z.1) := fun B1 H1 e w Q q0 =>
  ha B1 H1 e w _ fun vs B2 H2 e2 w2 ss => by
    show Pr1a c.K as Ci m Co Rr (vs ++ []) H2 Q E
    rw [List.append_nil]
    have l := hl B2 H2 w2
    rw [expo_nil] at l
    obtain ⟨o, h1, b1, m1, c1⟩ := w2.cell.get hk ho
    refine ⟨g, q, z, B2, o, p_le (P := fun _ _ => True) (vs := []) ss l, w2.ex, h1, b1, m1, c1, hm, fun v B' H' o' st ex h' m' c' r => ?_⟩
    have off : ∀ a ∈ ks, B' a = none := fun a ha => by
      obtain ⟨b0, o2', h2, _⟩ := w2.cell.off a ha
      rw [st.old a (by rw [h2]; exact fun z => nomatch z)]
      exact b0
    refine q0 v B' H' (e2.trans st.up) ⟨ex, w2.nd, pset2 i w2.nd w2.cell hk (fun a u en ⟨o2', q1, q2, q3, q4⟩ => ?_) ⟨o', h', off q (List.mem_of_getElem? hk), m', c'⟩, w2.own, ?_, fun a h => st.tr a (w2.hs a h)⟩ r
    · refine ⟨o2', st.keep a o2' q1 (by simpa using en), ?_, q3, u.mono st.up q4⟩
      rw [st.old a (by rw [q1]; exact fun z => nomatch z)]
      exact q2
    · refine ⟨w2.st.up.trans st.up, fun a h => (st.old a (w2.st.tr a h)).trans (w2.st.old a h), fun a u h n => ?_, fun a h => st.tr a (w2.st.tr a h)⟩
      refine st.keep a u (w2.st.keep a u h n) fun en => ?_
      rw [List.mem_singleton] at en
      subst en
      rcases w2.own a (List.mem_of_getElem? hk) with z | z
      · exact n z
      · rw [z] at h; cases h
end
end Dl

/-! Ev9 -/
set_option Elab.async false
set_option linter.all false
set_option maxRecDepth 100000
set_option maxHeartbeats 2000000
namespace Dl
open PySem PySem.Spec L2 PyProof.Rows
/-- may raise, the answer may be any -/
def PrXa {γ δ : Type} (K : Fg) (ga : Str → Addr) (as : γ → List Sv) (m : γ → Rs δ) (Rr : Rl δ) : Sp := fun vs H Q E => ∃ g y B, Paired (fun v S => Sv.p S v B) vs (as g) ∧ Same B H ∧ m g = some y ∧
  match y with
  | .ok y => ∀ v B' H', Stp [] B H B' H' → Same B' H' → Rr.r K B' v y → Q v H'
  | .error x => ∀ cls d B' H', Stp [] B H B' H' → Same B' H' → XR ga x cls d B' → E cls d H'
def pinC (B : Hp) (s : Cs) : Cs := ⟨fun _ o => s.p B o, fun _ h => h⟩
theorem csi_pin {B : Hp} {s : Cs} : CsI (pinC B s) := fun _ _ _ _ h => h
/-- the list of the rows' places -/
def CO (rs : List Addr) : Cs := ⟨fun _ o => o = .lst (rs.map V.ref), fun _ h => h⟩
theorem csi_CO {rs : List Addr} : CsI (CO rs) := fun _ _ _ _ h => h
def RwF (H B : Hp) : Addr → List Int → Prop := fun q xs => H q = none ∧ B q = some (.lst (xs.map V.int))
theorem pmap2 {α β : Type} {F G : α → β → Prop} {l : List α} {m : List β} (h : Paired F l m) (k : ∀ a b, a ∈ l → F a b → G a b) : Paired G l m := by
  induction h with
  | nil => exact .nil
  | cons a t ih => exact .cons (k _ _ List.mem_cons_self a) (ih fun a b h => k a b (List.mem_cons_of_mem _ h))
theorem ints_v {K : Fg} {B : Hp} : ∀ (ys : List Int), Paired (rInt.r K B) (ys.map V.int) ys
  | [] => .nil
  | y :: ys => .cons rfl (ints_v ys)
theorem rows_r {K : Fg} {B : Hp} {H : Hp} : ∀ {rs : List Addr} {xss : List (List Int)}, Paired (RwF H B) rs xss → Paired ((rLst rInt).r K B) (rs.map V.ref) xss
  | _, _, .nil => .nil
  | _, _, .cons a t => .cons ⟨_, _, rfl, a.2, ints_v _⟩ (rows_r t)
/-- a list of lists of ints; new: the rows are new and apart -/
def rLL : Rl (List (List Int)) where
  r K B v x := (rLst (rLst rInt)).r K B v x
  f K H B v xss := ∃ p rs, v = .ref p ∧ H p = none ∧ B p = some (.lst (rs.map V.ref)) ∧ rs.Nodup ∧ Paired (RwF H B) rs xss
  mono e h := (rLst (rLst rInt)).mono e h
  fr h := let ⟨p, rs, a, _, b, _, d⟩ := h; ⟨p, _, a, b, rows_r d⟩
  ftr e h := let ⟨p, rs, a, n, b, nd, d⟩ := h; ⟨p, rs, a, n, e _ _ b (.inr n), nd, pmap d fun q xs z => ⟨z.1, e _ _ z.2 (.inr z.1)⟩⟩
  fanti {K H H0 B v x} e h := by
    have no : ∀ a, H a = none → H0 a = none := fun a n => by
      cases z : H0 a with
      | none => rfl
      | some o => exact absurd n (e a (by rw [z]; exact fun q => nomatch q))
    obtain ⟨p, rs, a, n, b, nd, d⟩ := h
    exact ⟨p, rs, a, no _ n, b, nd, pmap d fun q xs z => ⟨no _ z.1, z.2⟩⟩
def rowO (rows : List (List Int)) (n : Int) : Option (Nat × List Int) := match ixN rows.length n with
  | none => none
  | some j => match rows[j]? with
    | none => none
    | some r => some (j, r)
theorem rowO_eq {rows : List (List Int)} {n : Int} {j : Nat} {r : List Int} (h : rowO rows n = some (j, r)) : ixN rows.length n = some j ∧ rows[j]? = some r := by
  unfold rowO at h
  split at h
  · cases h
  · rename_i j' hj
    split at h
    · cases h
    · rename_i r' hr
      cases h
      exact ⟨hj, hr⟩
theorem rs_at {rs : List Addr} {rows : List (List Int)} {j : Nat} {r : List Int} (hl : rs.length = rows.length) (h : rows[j]? = some r) : ∃ q, rs[j]? = some q := by
  obtain ⟨hj, _⟩ := List.getElem?_eq_some_iff.mp h
  exact ⟨rs[j]'(by omega), List.getElem?_eq_getElem (by omega)⟩
section
variable {c : Ct} {te ta tb tc : TE} {tt tu : TT} {tl tr : TA} {σ : L2.St} {B H : Hp} {ks : List Addr} {os o1 o2 o3 o4 : List Cs} {S T U : Sv} {Ss Ts : List Sv} {i : Nat} {v : V} {r : R2} {α β γ : Type} {R : Rl α} {R' : Rl β} {xs ys : List α} {x y : α} {p q : Addr} {D : Ends} {rs : List Addr} {xss : List (List Int)}
theorem ll_s {K : Fg} : Sle (rLL.s K xss) ((rLst (rLst rInt)).s K xss) := fun _ _ h => h
theorem s_ll {K : Fg} : Sle ((rLst (rLst rInt)).s K xss) (rLL.s K xss) := fun _ _ h => h
theorem llg_s {K : Fg} : Sle (rLL.g K H xss) ((rLst (rLst rInt)).s K xss) := fun _ _ h => rLL.fr h
theorem ev_callXaok {γ δ : Type} {ga : Str → Addr} {as : γ → List Sv} {m : γ → Rs δ} {Rr : Rl δ} {g : γ} {y : δ} {E : XK} {tl : TA} (ha : EvA c tl σ B ks o1 o2 Ss) (hl : ALe c ks o2 [] Ss (as g)) (hm : m g = some (.ok y)) : Ev c (tCall (PrXa c.K ga as m Rr) [] E tl) σ B ks o1 o2 (Rr.s c.K y) := fun B1 H1 e w Q k =>
  ha B1 H1 e w _ fun vs B2 H2 e2 w2 ss => by
    show PrXa c.K ga as m Rr (vs ++ []) H2 Q E
    rw [List.append_nil]
    have z := hl B2 H2 w2
    rw [expo_nil] at z
    refine ⟨g, .ok y, B2, p_le (P := fun _ _ => True) (vs := []) ss z, w2.ex, hm, fun v B' H' st ex r => k v B' H' (e2.trans st.up) ⟨ex, w2.nd, ?_, w2.own, w2.st.trans ⟨st.up, st.old, fun a o h _ => st.keep a o h (by simp), st.tr⟩, fun a h => st.tr a (w2.hs a h)⟩ r⟩
    exact pmap w2.cell fun a s ⟨o, q1, q2, q3, q4⟩ => ⟨o, st.keep _ _ q1 (by simp), by rw [st.old a (by rw [q1]; exact fun z => nomatch z)]; exact q2, q3, s.mono st.up q4⟩
theorem callXa {γ δ : Type} {ga : Str → Addr} {as : γ → List Sv} {m : γ → Rs δ} {Rr : Rl δ} {g : γ} {x : Xc} {E : XK} {tl : TA} {Q : VK} (w : Wd c B H ks o1) (ha : EvA (c.at H) tl σ B ks o1 o2 Ss) (hl : ALe (c.at H) ks o2 [] Ss (as g)) (hm : m g = some (.error x))
    (er : ∀ cls d B2 H2, Same B B2 → Wd c B2 H2 ks o2 → XR ga x cls d B2 → E cls d H2) : tCall (PrXa c.K ga as m Rr) [] E tl σ H Q :=
  ha B H (Same.refl _) w.at _ fun vs B2 H2 e2 w2 ss => by
    show PrXa c.K ga as m Rr (vs ++ []) H2 Q E
    rw [List.append_nil]
    have z := hl B2 H2 w2
    rw [expo_nil] at z
    have w3 := w.un w2
    refine ⟨g, .error x, B2, p_le (P := fun _ _ => True) (vs := []) ss z, w2.ex, hm, fun cls d B' H' st ex r => er cls d B' H' (e2.trans st.up) ⟨ex, w3.nd, ?_, w3.own, w3.st.trans ⟨st.up, st.old, fun a o h _ => st.keep a o h (by simp), st.tr⟩, fun a h => st.tr a (w3.hs a h)⟩ r⟩
    exact pmap w3.cell fun a s ⟨o, q1, q2, q3, q4⟩ => ⟨o, st.keep _ _ q1 (by simp), by rw [st.old a (by rw [q1]; exact fun z => nomatch z)]; exact q2, q3, s.mono st.up q4⟩
/-! ### a cell is left alone for a while -/
theorem pset1 {F : Addr → Cs → Prop} : ∀ {ks : List Addr} {os : List Cs} (i : Nat) {s s' : Cs}, Paired F ks os → os[i]? = some s → (∀ a, F a s → F a s') → Paired F ks (os.set i s')
  | _, _, _, _, _, .nil, h, _ => by simp at h
  | _, _, 0, s, s', .cons a t, h, k => by simp at h; subst h; exact .cons (k _ a) t
  | _, _, i + 1, s, s', .cons a t, h, k => .cons a (pset1 i t (by simpa using h) k)
theorem Wd.pin (w : Wd c B H ks os) (i : Nat) {s : Cs} (ho : os[i]? = some s) : Wd c B H ks (os.set i (pinC B s)) :=
  ⟨w.ex, w.nd, pset1 i w.cell ho fun a ⟨o, q1, q2, q3, q4⟩ => ⟨o, q1, q2, q3, q4⟩, w.own, w.st, w.hs⟩
theorem Wd.unpin {B0 : Hp} (w : Wd c B H ks os) (i : Nat) {s : Cs} (ho : os[i]? = some (pinC B0 s)) (e : Same B0 B) : Wd c B H ks (os.set i s) :=
  ⟨w.ex, w.nd, pset1 i w.cell ho fun a ⟨o, q1, q2, q3, q4⟩ => ⟨o, q1, q2, q3, s.mono e q4⟩, w.own, w.st, w.hs⟩
/-! ### rows of one's own -/
theorem cel_hids {S : List Addr} (im : ∀ a u, B a = some u → isM u = false → hids S B a = some u) : ∀ {ks : List Addr} {os : List Cs}, AllI os → Cel B H ks os → Cel (hids S B) H ks os
  | _, _, _, .nil => .nil
  | _, _, ai, .cons a b => by
    obtain ⟨o2, q1, q2, q3, q4⟩ := a
    refine .cons ⟨o2, q1, ?_, q3, ai.1 _ _ _ im q4⟩ (cel_hids im ai.2 b)
    unfold hids
    split
    · rfl
    · exact q2
theorem papp2 {α β : Type} {F : α → β → Prop} : ∀ {l l2 : List α} {m m2 : List β}, Paired F l m → Paired F l2 m2 → Paired F (l ++ l2) (m ++ m2)
  | _, _, _, _, .nil, h => h
  | _, _, _, _, .cons a t, h => .cons a (papp2 t h)
theorem psplit {α β : Type} {F : α → β → Prop} : ∀ {l l2 : List α} {m m2 : List β}, l.length = m.length → Paired F (l ++ l2) (m ++ m2) → Paired F l m ∧ Paired F l2 m2
  | [], _, [], _, _, h => ⟨.nil, h⟩
  | [], _, _ :: _, _, e, _ => by cases e
  | _ :: _, _, [], _, e, _ => by cases e
  | a :: l, l2, b :: m, m2, e, .cons q t => by
    obtain ⟨x, y⟩ := psplit (l := l) (m := m) (Nat.succ.inj e) t
    exact ⟨.cons q x, y⟩
theorem pmapR {α β γ : Type} {F : α → β → Prop} {G : α → γ → Prop} {f : β → γ} : ∀ {l : List α} {m : List β}, Paired F l m → (∀ a b, a ∈ l → F a b → G a (f b)) → Paired G l (m.map f)
  | _, _, .nil, _ => .nil
  | _, _, .cons a t, k => .cons (k _ _ List.mem_cons_self a) (pmapR t fun a b h => k a b (List.mem_cons_of_mem _ h))
theorem pmapL {α β γ : Type} {F : α → β → Prop} {G : α → γ → Prop} {f : γ → β} : ∀ {l : List α} {m : List γ}, Paired F l (m.map f) → (∀ a b, a ∈ l → F a (f b) → G a b) → Paired G l m
  | _, [], .nil, _ => .nil
  | _, _ :: _, .cons a t, k => .cons (k _ _ List.mem_cons_self a) (pmapL t fun a b h => k a b (List.mem_cons_of_mem _ h))
theorem pmem {α β : Type} {F : α → β → Prop} : ∀ {l : List α} {m : List β}, Paired F l m → ∀ a ∈ l, ∃ b, F a b
  | _, _, .nil, _, h => nomatch h
  | _, _, .cons q t, a, h => by
    rcases List.mem_cons.mp h with rfl | h
    · exact ⟨_, q⟩
    · exact pmem t a h
/-- x = a new list of new rows -/
theorem s_ownT {j : Nat} (w : Wd c B H ks o1) (h : Ev (c.at H) te σ B ks o1 o2 (rLL.g c.K H xss)) (ai : AllI o2) (k : ∀ p rs B2 H2, Same B B2 → rs.length = xss.length → c.H0 p = none → (∀ r ∈ rs, c.H0 r = none) → Wd c B2 H2 (ks ++ p :: rs) (o2 ++ CO rs :: xss.map (CL rInt c.K)) → D.nx (σ.set j (some (.ref p))) H2) : tAsg te (gName j) D σ H :=
  h B H (Same.refl _) w.at _ fun v B2 H2 e w2 ⟨p, rs, a, n, b, nd, d⟩ => by
    subst a
    have w3 := w.un w2
    have dl := Paired.length d
    have hS : ∀ a ∈ p :: rs, H a = none ∧ ∃ vs, B2 a = some (.lst vs) := fun a ha => by
      rcases List.mem_cons.mp ha with rfl | ha
      · exact ⟨n, _, b⟩
      · obtain ⟨xs, z1, z2⟩ := pmem d a ha
        exact ⟨z1, _, z2⟩
    have np : p ∉ rs := fun m => by
      obtain ⟨xs, z1, z2⟩ := pmem d p m
      rw [b] at z2
      cases rs with
      | nil => cases m
      | cons r0 rs => cases xs <;> cases z2
    have off : ∀ a ∈ p :: rs, a ∉ ks := fun a ha m => by
      obtain ⟨_, vs, z⟩ := hS a ha
      rw [w3.off m] at z; cases z
    have im : ∀ a u, B2 a = some u → isM u = false → hids (p :: rs) B2 a = some u := fun a u z m => by
      rw [hids_off (fun ha => by obtain ⟨_, vs, z2⟩ := hS a ha; rw [z] at z2; cases z2; cases m)]
      exact z
    have up : Same B (hids (p :: rs) B2) := fun a u h => by
      rw [hids_off (fun ha => by have z := w.ex a u h; rw [(hS a ha).1] at z; cases z)]
      exact e a u h
    have n0 : ∀ a ∈ p :: rs, c.H0 a = none := fun a ha => w.new0 (hS a ha).1
    refine k p rs (hids (p :: rs) B2) H2 up dl (w.new0 n) (fun r hr => n0 r (List.mem_cons_of_mem _ hr)) ⟨fun a u h => ?_, ?_, ?_, fun a h => ?_, ?_, w3.hs⟩
    · by_cases ha : a ∈ p :: rs
      · rw [hids_in ha] at h; cases h
      · rw [hids_off ha] at h; exact w3.ex a u h
    · refine List.nodup_append.mpr ⟨w3.nd, List.nodup_cons.mpr ⟨np, nd⟩, fun a ha b hb e => ?_⟩
      subst e
      exact off _ hb ha
    · refine papp2 (cel_hids im ai w3.cell) (.cons ⟨_, w3.ex _ _ b, hids_in List.mem_cons_self, rfl, rfl⟩ (pmapR d fun a xs ha z => ⟨_, w3.ex _ _ z.2, hids_in (List.mem_cons_of_mem _ ha), rfl, _, rfl, ints_v _⟩))
    · rcases List.mem_append.mp h with h | h
      · exact w3.own a h
      · exact .inr (n0 a h)
    · exact ⟨fun a u h => up a u (w.st.up a u h), fun a h => by rw [hids_off (fun ha => h (n0 a ha))]; exact w3.st.old a h, w3.st.keep, w3.st.tr⟩
/-- they are handed back -/
theorem r_grp (w : Wd c B H (ks ++ p :: rs) (os ++ CO rs :: xss.map (CL rInt c.K))) (n : c.H0 p = none) (nr : ∀ r ∈ rs, c.H0 r = none) (hlen : ks.length = os.length) : ∃ B', Same B B' ∧ Wd c B' H ks os ∧ rLL.f c.K c.H0 B' (.ref p) xss := by
  have sub : ∀ a ∈ p :: rs, a ∈ ks ++ p :: rs := fun a h => List.mem_append_right _ h
  obtain ⟨c1, c2⟩ := psplit hlen w.cell
  obtain ⟨nd1, nd2, dj⟩ := List.nodup_append.mp w.nd
  have n0 : ∀ a ∈ p :: rs, c.H0 a = none := fun a h => by
    rcases List.mem_cons.mp h with rfl | h
    · exact n
    · exact nr a h
  have offk : ∀ a ∈ ks, a ∉ p :: rs := fun a h m => dj a h a m rfl
  refine ⟨expo (p :: rs) H B, expo_same w sub, ⟨expo_to w _, nd1, pmap2 c1 fun a s ha ⟨o, q1, q2, q3, q4⟩ => ⟨o, q1, ?_, q3, s.mono (expo_same w sub) q4⟩, fun a h => w.own a (List.mem_append_left _ h), ?_, w.hs⟩, ?_⟩
  · rw [expo_off (offk a ha)]; exact q2
  · exact ⟨w.st.up.trans (expo_same w sub), fun a h => by rw [expo_off (fun m => h (n0 a m))]; exact w.st.old a h, w.st.keep, w.st.tr⟩
  · cases c2 with
    | cons a t =>
      obtain ⟨o, h1, h2, h3, h4⟩ := a
      cases (show o = _ from h4)
      refine ⟨p, rs, rfl, n, by rw [expo_in List.mem_cons_self]; exact h1, (List.nodup_cons.mp nd2).2, pmapL t fun a xs ha ⟨o, q1, q2, q3, vs, e, d⟩ => ⟨nr a ha, ?_⟩⟩
      rw [expo_in (List.mem_cons_of_mem _ ha), q1, e, pints (c := c) d]
theorem Wd.eq {os' : List Cs} (w : Wd c B H ks os) (h : os = os') : Wd c B H ks os' := h ▸ w
theorem len_set {j : Nat} {y : List Int} (h : rs.length = xss.length) : rs.length = (xss.set j y).length := by rw [List.length_set]; exact h
theorem set_at {j : Nat} {y z : List Int} (h : xss[j]? = some z) : (xss.set j y)[j]? = some y := by
  obtain ⟨hj, _⟩ := List.getElem?_eq_some_iff.mp h
  rw [List.getElem?_set_self hj]
theorem allI_rows {K : Fg} : ∀ {xss : List (List Int)}, AllI (xss.map (CL rInt K))
  | [] => trivial
  | _ :: _ => ⟨csi (imm_flat _), allI_rows⟩
theorem s_ifJ2 {tS uS : TS} {ρ : Type} {ks2 : ρ → List Addr} {oo : ρ → List Cs} {b : Bool} (J : ρ → L2.St → Hp → Prop) (Fin : ρ → Prop) (w : Wd c B H ks o1) (h : EvT (c.at H) tt σ B ks o1 o2 b)
    (done : ∀ ρ σ' B' H', Same B B' → Wd c B' H' (ks2 ρ) (oo ρ) → J ρ σ' B' → Fin ρ → D.nx σ' H')
    (k1 : b = true → ∀ B2 H2, Same B B2 → Wd c B2 H2 ks o2 → ∀ N : L2.St → Hp → Prop, (∀ ρ σ' B' H', Same B B' → Wd c B' H' (ks2 ρ) (oo ρ) → J ρ σ' B' → Fin ρ → N σ' H') → tS { D with nx := N } σ H2)
    (k2 : b = false → ∀ B2 H2, Same B B2 → Wd c B2 H2 ks o2 → ∀ N : L2.St → Hp → Prop, (∀ ρ σ' B' H', Same B B' → Wd c B' H' (ks2 ρ) (oo ρ) → J ρ σ' B' → Fin ρ → N σ' H') → uS { D with nx := N } σ H2) : tIfS tt tS uS D σ H :=
  s_if w h (fun hb B2 H2 e w2 => k1 hb B2 H2 e w2 D.nx done) fun hb B2 H2 e w2 => k2 hb B2 H2 e w2 D.nx done
/-- X[i], a row -/
theorem ev_row {n : Int} {j : Nat} (i : Nat) (hk : ks[i]? = some p) (ha : Ev c ta σ B ks o1 o2 (SA p)) (hb : Ev c tb σ B ks o2 o3 (rInt.s c.K n)) (ho : o3[i]? = some (CO rs)) (hl : rs.length = xss.length) (hj : ixN xss.length n = some j) (hq : rs[j]? = some q) : Ev c (tOp (rIxL c.K) ta tb) σ B ks o1 o3 (SA q) :=
  ev_op0 ha hb fun a b B2 H2 w s t => by
    cases (show a = .ref p from s)
    cases (show b = .int n from t)
    obtain ⟨o, h1, _, _, h4⟩ := w.cell.get hk ho
    cases (show o = _ from h4)
    refine ⟨.ref q, rfl, fun Q k => ⟨p, _, n, .ref q, rfl, rfl, SqL.of h1, ?_, k⟩⟩
    unfold atI
    rw [List.length_map, hl, hj]
    show (rs.map V.ref)[j]? = _
    rw [List.getElem?_map, hq]
    rfl
/-- the rows, read by another -/
theorem al_T {ks' : List Addr} (pre : List Addr) (po : List Cs) (hks : ks = pre ++ p :: rs) (hos : os = po ++ CO rs :: xss.map (CL rInt c.K)) (hlen : pre.length = po.length) (hm : ∀ a ∈ p :: rs, a ∈ ks') (hs : ∀ a ∈ ks', a ∈ ks) (h : ALe c ks os ks' Ss Ts) : ALe c ks os ks' (SA p :: Ss) ((rLst (rLst rInt)).s c.K xss :: Ts) := fun B H w => .cons (fun v z => by
  have w0 := w
  subst hks hos
  obtain ⟨c1, c2⟩ := psplit hlen w.cell
  cases c2 with
  | cons a t =>
    obtain ⟨o, h1, h2, h3, h4⟩ := a
    cases (show o = _ from h4)
    refine ⟨p, _, z, by rw [expo_in (hm p List.mem_cons_self)]; exact h1, ?_⟩
    have t2 : Paired (RwF (fun _ => none) (expo ks' H B)) rs xss := pmapL t fun a xs ha ⟨o, q1, q2, q3, vs, e, d⟩ => ⟨rfl, by rw [expo_in (hm a (List.mem_cons_of_mem _ ha)), q1, e, pints (c := c) d]⟩
    exact rows_r t2) (h B H w)
/-- pairs with something new -/
theorem ev_T2g {z : β} {tl : TA} (ha : EvA c tl σ B ks o1 o2 [R.g c.K c.Hs x, R'.g c.K c.Hs z]) : Ev c (tTup tl) σ B ks o1 o2 ((rT2 R R').g c.K c.Hs (x, z)) := fun B1 H1 e w Q k => ha B1 H1 e w _ fun vs B2 H2 e2 w2 ss => by
  obtain ⟨v1, v2, rfl, h1, h2⟩ := pn2 ss
  exact ⟨by show 2 ≤ sizeLine; decide, new_tup w2 fun v B3 H3 e3 w3 ⟨p, a, b⟩ => k v B3 H3 (e2.trans e3) w3 ⟨p, _, _, a, SqT.of b, Sv.mono (R.g c.K c.Hs x) e3 h1, Sv.mono (R'.g c.K c.Hs z) e3 h2⟩⟩
/-! ### comprehensions that make new rows -/
def CF (Hs : Hp) (rs : List Addr) (acc : List (List Int)) : Cs := ⟨fun B o => o = .lst (rs.map V.ref) ∧ rs.Nodup ∧ Paired (RwF Hs B) rs acc, fun e h => ⟨h.1, h.2.1, pmap h.2.2 fun _ _ q => ⟨q.1, e _ _ q.2⟩⟩⟩
theorem nodup_snoc {α : Type} {l : List α} {a : α} (h : l.Nodup) (n : a ∉ l) : (l ++ [a]).Nodup := by
  refine List.nodup_append.mpr ⟨h, by simp, fun b hb d hd e => ?_⟩
  rw [List.mem_singleton] at hd
  subst e hd
  exact n hb
theorem ev_lcF {ρ : Type} {wi : TI} {g : TG} {vs : List Nat} {oo : ρ → List Cs} {ρ0 : ρ} {z : List (List Int) × ρ} (tf : α → ρ → Option (Bool × ρ)) (ef : α → ρ → Option (List Int × ρ)) (T : α → Hp → L2.St → Prop) (hi : EvI c wi σ B ks o1 (oo ρ0) R xs) (hz : lcO tf ef xs ρ0 = some z)
    (tm : ∀ x B1 B2 σ2, Same B1 B2 → T x B1 σ2 → T x B2 σ2)
    (hg : ∀ v x B' H' (ks' : List Addr) (os' : List Cs), Wd c B' H' ks' os' → R.r c.K B' v x → ∀ P : L2.St → Hp → Prop, (∀ σ2, wipe σ2 vs = wipe σ vs → T x B' σ2 → P σ2 H') → g v (wipe σ vs) H' P)
    (ht : ∀ x r b r1 σ2 B' p (s : Cs), tf x r = some (b, r1) → Same B B' → T x B' σ2 → EvT c tt σ2 B' (p :: ks) (s :: oo r) (s :: oo r1) b)
    (he : ∀ Hh x r y r1 σ2 B' p (s : Cs), ef x r = some (y, r1) → Same B B' → T x B' σ2 → Ev (c.at Hh) te σ2 B' (p :: ks) (s :: oo r) (s :: oo r1) (SN rInt c.K Hh y)) :
    Ev c (tLc wi g tt te vs) σ B ks o1 (oo z.2) (rLL.g c.K c.Hs z.1) := fun B1 H1 e1 w1 Q k => by
  unfold lcO at hz
  split at hz
  · rename_i hl
    refine hi B1 H1 e1 w1 _ fun It B2 H2 e2 w2 sp => ?_
    intro Dl hn
    have w3 : Wd c B2 (upd H2 Dl (.lst [])) (Dl :: ks) (CF c.Hs [] [] :: oo ρ0) := w2.own_new hn rfl ⟨rfl, .nil, .nil⟩
    have n0 : c.H0 Dl = none := w2.new0 hn
    have ns : c.Hs Dl = none := w2.news hn
    refine ⟨fun i m H' => m = xs.length - i ∧ i ≤ xs.length ∧ ∃ r acc rs B', Same B B' ∧ Same B2 B' ∧ Wd c B' H' (Dl :: ks) (CF c.Hs rs acc :: oo r) ∧ acc.length ≤ i ∧ ∃ u, lcM tf ef (xs.drop i) r = some u ∧ z = (acc ++ u.1, u.2), ⟨_, rfl, Nat.zero_le _, ρ0, [], [], B2, e1.trans e2, Same.refl _, w3, Nat.zero_le _, z, hz, rfl⟩, ?_⟩
    rintro i m H' ⟨rfl, hil, r, acc, rs, B', e, e3, w, hacc, u, hu, hzz⟩
    obtain ⟨s1, s2⟩ := sp c i B' H' _ _ rfl e3 w
    by_cases hlt : i < xs.length
    · have hx : xs[i]? = some xs[i] := List.getElem?_eq_getElem hlt
      obtain ⟨go, yl⟩ := s1 _ hx
      rw [List.drop_eq_getElem_cons hlt] at hu
      refine .inr ⟨go, fun H' => ∃ r acc rs B', Same B B' ∧ Same B2 B' ∧ Wd c B' H' (Dl :: ks) (CF c.Hs rs acc :: oo r) ∧ acc.length ≤ i + 1 ∧ ∃ u, lcM tf ef (xs.drop (i + 1)) r = some u ∧ z = (acc ++ u.1, u.2), ?_, ?_⟩
      · rintro H3 ⟨r, acc, rs, B', a1, a2, a3, a4, a5⟩
        exact ⟨xs.length - (i + 1), by omega, rfl, hlt, r, acc, rs, B', a1, a2, a3, a4, a5⟩
      · intro v H'' hy
        obtain ⟨B3, e6, w6, r6⟩ := yl v H'' hy
        refine hg v _ B3 H'' _ _ w6 r6 _ fun σ2 hw hT => ⟨hw, ?_⟩
        unfold lcM at hu
        cases htf : tf xs[i] r with
        | none => rw [htf] at hu; cases hu
        | some br =>
          obtain ⟨b, r1⟩ := br
          rw [htf] at hu
          refine ht _ r b r1 σ2 B3 Dl _ htf (e.trans e6) hT B3 H'' (Same.refl _) w6 _ fun B4 H4 e7 w7 => ?_
          cases b with
          | false =>
            show ∃ r acc rs B', _
            exact ⟨r1, acc, rs, B4, (e.trans e6).trans e7, (e3.trans e6).trans e7, w7, by omega, u, hu, hzz⟩
          | true =>
            rw [if_pos rfl]
            simp only at hu
            cases hef : ef xs[i] r1 with
            | none => rw [hef] at hu; cases hu
            | some yr =>
              obtain ⟨y, r2⟩ := yr
              rw [hef] at hu
              simp only at hu
              cases hr : lcM tf ef (xs.drop (i + 1)) r2 with
              | none => rw [hr] at hu; cases hu
              | some u2 =>
                obtain ⟨ys, r3⟩ := u2
                rw [hr] at hu
                simp only at hu
                cases hu
                refine he H4 _ r1 y r2 σ2 B4 Dl _ hef ((e.trans e6).trans e7) (tm _ _ _ _ e7 hT) B4 H4 (Same.refl _) w7.at _ fun y' B5 H5 e8 w8' sy => ?_
                have w8 := w7.un w8'
                obtain ⟨q', vs', ey, nq, bq, dq⟩ := sy
                subst ey
                have ev := pints (c := c) dq
                subst ev
                obtain ⟨o, h5, _, _, rfl, nd, d⟩ := w8.cell.get (i := 0) rfl rfl
                obtain ⟨oo7, h7, _, _, e77, nd7, d7⟩ := w7.cell.get (i := 0) rfl rfl
                have hlen : rs.length = acc.length := Paired.length d
                have nin : q' ∉ rs := fun m => by
                  obtain ⟨xs', z1, z2⟩ := pmem d7 q' m
                  have z3 := w7.ex _ _ z2
                  rw [nq] at z3; cases z3
                refine ⟨rs.map V.ref, h5, by rw [List.length_map, hlen, sizeLine_eq]; omega, r2, acc ++ [y], rs ++ [q'], B5, ((e.trans e6).trans e7).trans e8, ((e3.trans e6).trans e7).trans e8, w8.put (s := CF c.Hs (rs ++ [q']) (acc ++ [y])) 0 rfl rfl ?_, by rw [List.length_append]; simp; omega, (ys, r3), hr, ?_⟩
                · exact ⟨by rw [List.map_append]; rfl, nodup_snoc nd nin, papp2 d (.cons ⟨w7.news nq, bq⟩ .nil)⟩
                · rw [hzz, List.append_assoc]
                  rfl
    · have ei : i = xs.length := by omega
      subst ei
      rw [List.drop_length] at hu
      cases hu
      refine .inl ⟨s2 (Nat.le_refl _), ?_⟩
      obtain ⟨o, h5, ⟨rfl, nd, d⟩, up, w5⟩ := w.freeze n0
      have := k (.ref Dl) _ H' ((e3.trans up) |> fun z => (e2.trans z)) (by rw [hzz]; exact w5) (by
        rw [hzz]
        show ∃ p rs, _
        exact ⟨Dl, rs, rfl, ns, upd_same, nd, by rw [List.append_nil]; exact pmap d fun a xs q => ⟨q.1, up _ _ q.2⟩⟩)
      exact this
  · cases hz
end
end Dl

/-! Ev10 -/
set_option Elab.async false
set_option linter.all false
set_option maxRecDepth 100000
set_option maxHeartbeats 2000000
namespace Dl
open PySem PySem.Spec L2 PyProof.Rows
abbrev SuiteT := Addr → Value → Option Addr → TS
/-- an except clause: without a name, with one (its slot) -/
inductive Hd where
  | p (c : Value) (ts : SuiteT)
  | a (c : Value) (i : Nat) (ts : SuiteT)
def goneE (i : Nat) (D : Ends) : Ends := ⟨fun σ H => D.nx (σ.set i none) H, D.rt, fun σ H => D.bk (σ.set i none) H, fun σ H => D.ct (σ.set i none) H⟩
def wHs (K : Fg) (Wout : WX) (D : Ends) : List Hd → WX
  | [] => Wout
  | .p c ts :: r => fun cls d σ H => ∃ b, PySem.W.exmOne K cls c = some b ∧
      (b = true → ∀ a, H a = none → ts a cls d D σ H) ∧
      (b = false → wHs K Wout D r cls d σ H)
  | .a c i ts :: r => fun cls d σ H => ∃ b, PySem.W.exmOne K cls c = some b ∧
      (b = true → ∀ a, H a = none → ts a cls d (goneE i D) (σ.set i (some (.ref a))) H) ∧
      (b = false → wHs K Wout D r cls d σ H)
inductive HdA (X : Cx) : List ExceptHandler → List Hd → Prop
  | nil : HdA X [] []
  | p {x : Str} {c : Value} {ts : SuiteT} {b0 : Stmt} {su : List Stmt} {np ps : Pos} {hds : List ExceptHandler} {l : List Hd} (hc : Names X x c)
      (hsu : ∀ (a : Addr) (oe : Obj) (cls : Value) (d : Option Addr) (pn : List (Addr × Obj)), Zc cls d oe → (∃ vs, oe.data = .fields vs) →
        PSs (X.suite a ((a, oe) :: pn)) (b0 :: su) (ts a cls d)) (r : HdA X hds l) : HdA X (.ExceptHandler (some (.Name x np)) none (b0 :: su) ps :: hds) (.p c ts :: l)
  | a {x n : Str} {c : Value} {i : Nat} {ts : SuiteT} {b0 : Stmt} {su : List Stmt} {np ps : Pos} {hds : List ExceptHandler} {l : List Hd} (hN : X.N.Nodup) (hi : X.N[i]? = some n) (hln : X.env.kindOf n = some .local) (hc : Names X x c)
      (hsu : ∀ (a : Addr) (oe : Obj) (cls : Value) (d : Option Addr) (pn : List (Addr × Obj)), Zc cls d oe → (∃ vs, oe.data = .fields vs) →
        PSs (X.suite a ((a, oe) :: pn)) (b0 :: su) (ts a cls d)) (r : HdA X hds l) : HdA X (.ExceptHandler (some (.Name x np)) (some n) (b0 :: su) ps :: hds) (.a c i ts :: l)
section
variable {X : Cx} {body : List Stmt} {h0 : ExceptHandler} {hds : List ExceptHandler} {l : List Hd} {pos : Pos} {tb : WX → TS} {Wout : WX}
theorem names_test {a : Addr} {oe : Obj} {pins : List (Addr × Obj)} {σ : L2.St} {H : Hp} {s : Shared} {x : Str} {np : Pos} {c : Value} (hc : Names X x c) (S : Inv (X.suite a ((a, oe) :: (X.pn ++ pins))) [] σ H s) {Q E : Value → Shared → Prop} (q : Q c s) :
    wpAny (model X.prog X.w) (X.A.mark (some (.ref a))) (eval (.Name x np) X.env) Q E s := by
  obtain ⟨g1, g2, g3 | ⟨g4, g5, g6⟩⟩ := hc
  · exact ld_glob (X := X.suite a ((a, oe) :: (X.pn ++ pins))) S g1 g3 q g2
  · exact ld_blt (X := X.suite a ((a, oe) :: (X.pn ++ pins))) S g1 g4 g5 q g6 g2
theorem suite_end {a : Addr} {oe : Obj} {pins : List (Addr × Obj)} {D : Ends} {s6 : Shared} {f : Flow} (ok : X.Ok) (hsp : SP (X.suite a ((a, oe) :: (X.pn ++ pins))) [] D f s6) : SP X pins D f s6 := by
  cases f with
  | next => obtain ⟨σ6, H6, S6, q6⟩ := hsp; exact ⟨_, _, S6.unsuite ok, q6⟩
  | brk => obtain ⟨σ6, H6, S6, q6⟩ := hsp; exact ⟨_, _, S6.unsuite ok, q6⟩
  | cont => obtain ⟨σ6, H6, S6, q6⟩ := hsp; exact ⟨_, _, S6.unsuite ok, q6⟩
  | ret u => obtain ⟨v6, σ6, H6, S6, r6, q6⟩ := hsp; exact ⟨_, _, _, S6.unsuite ok, r6, q6⟩
theorem ps_try_hs (hs : X.stack = X.env :: X.outer) (hf : X.env.frame = some X.env.locals) (tk : Takes X Wout)
    (hb : ∀ (W : WX) (pn : List (Addr × Obj)) (xe : Value → Shared → Prop), Takes (X.tr pn xe) W →
      PassesOwn (model X.prog X.w) X.A X.env xe → PSs (X.tr pn xe) body (tb W))
    (hh : HdA X (h0 :: hds) l) : PS X (.Try body (h0 :: hds) [] [] pos) (fun D σ H => tb (wHs X.K Wout D l) D σ H) := by
  constructor
  intro pins s σ H D I h
  have ok := I.ok; have hfr : X.A.frames = some (X.env :: X.outer) := by rw [ok.frames, hs]
  refine wpAny_Try_except ?_
  let xe' : Value → Shared → Prop := fun e s₁ => wpAny (model X.prog X.w) X.A (noteFrame e X.env) (fun _ s₂ => wpAny (model X.prog X.w) X.A (setFlight e none)
    (fun _ s₃ => wpAny (model X.prog X.w) X.A (handleBy e X.env (h0 :: hds)) (SP X pins D) X.xe s₃) X.xe s₂) X.xe s₁
  have run := (hb (wHs X.K Wout D l) (X.pn ++ pins) xe' (fun u s' xx => ?_) PassesOwn.looking).run [] s σ H D (I.toTry _) h
  · refine wpAny_mono run (fun f s1 hsp => ?_) (fun e s1 he => he)
    cases f with
    | next => obtain ⟨σ', H', J', q⟩ := hsp; exact wpAny_execs_nil ⟨σ', H', J'.ofTry ok, q⟩
    | brk => obtain ⟨σ', H', J', q⟩ := hsp; exact ⟨σ', H', J'.ofTry ok, q⟩
    | cont => obtain ⟨σ', H', J', q⟩ := hsp; exact ⟨σ', H', J'.ofTry ok, q⟩
    | ret u => obtain ⟨v, σ', H', J', r, q⟩ := hsp; exact ⟨v, σ', H', J'.ofTry ok, r, q⟩
  · obtain ⟨a, B, sI, pins', σ', H', cls, d, rfl, J', nb, up, sky, na, os, ag, w⟩ := xx
    have J : Inv X pins σ' H' sI := J'.ofTry ok
    have sky' : Sky B (X.env :: X.outer) a (Zc cls d) X.env.locals s'.heap := hs ▸ sky
    show wpAny (model X.prog X.w) X.A (noteFrame (.ref a) X.env) _ _ _
    refine Sky.land Zc.steady hfr hf sky' fun h3 fl3 up3 => ?_
    have J3 : Inv X pins σ' H' { s' with heap := h3 } := J.landed nb fl3.1 (up.trans up3) os ag
    obtain ⟨oe3, vs3, he3, hz3, hd3⟩ := fl3.there
    have nfr : a ∉ frs (X.env :: X.outer) := fun hm => by obtain ⟨_, o', e', hnf⟩ := fl3.2.2.1.mem hm; rw [he3] at e'; cases e'; exact hnf _ hd3
    have nL : a ≠ X.env.locals := fun z => nfr (List.mem_filterMap.mpr ⟨X.env, .head _, by rw [hf, z]⟩)
    have nF : a ∉ X.fs := fun hm => by obtain ⟨e, he, q⟩ := List.mem_filterMap.mp hm; exact nfr (List.mem_filterMap.mpr ⟨e, .tail _ he, q⟩)
    have S3 := J3.suite he3 hd3 na nL nF
    have LT : PySem.W.Looks (model X.prog X.w) h3 (typeOf (.ref a)) cls := fun A Q E s k q => wpAny_typeOf_ref (k _ _ he3) (hz3.1.symm ▸ q)
    have go : ∀ {hds' : List ExceptHandler} {l' : List Hd}, HdA X hds' l' → wHs X.K Wout D l' cls d σ' H' →
        wpAny (model X.prog X.w) X.A (handleBy (.ref a) X.env hds') (SP X pins D) X.xe { s' with heap := h3 } := by
      intro hds' l' hk
      induction hk with
      | nil =>
        intro w
        obtain ⟨k1, k2, k3, oe, vs, T, oT, ts', he, hz, hd, h1, hr⟩ := id fl3
        refine wpAny_handleBy_nil ?_
        unfold PySem.passOn
        refine wpAny_bind (wpAny_field he hd h1 ?_)
        rw [if_neg (by simp : ¬ ((Value.ref T == Value.none) = true))]
        have fin : wpAny (model X.prog X.w) X.A (setFlight (.ref a) X.env.frame) (fun _ s4 => wpAny (model X.prog X.w) X.A (throw (.ref a) : Sem Flow)
            (SP X pins D) X.xe s4) X.xe { s' with heap := h3 } := by
          rw [hf]
          exact HandSPX.setFlight_upZ fl3 fun h4 hh4 up4 => wpAny_throw (tk _ _ ⟨a, B, sI, pins, σ', H', cls, d, rfl, J, nb, (up.trans up3).trans up4, .inr (.inr (hs ▸ hh4)), na, os, ag, w⟩)
        first | exact wpAny_bind (wpAny_pure (wpAny_bind fin)) | exact wpAny_bind fin
      | @p x c ts b0 su np ps hds2 l2 hc hsu r ih =>
        intro w
        obtain ⟨b, hb1, hyes, hno⟩ := w
        have LM := PySem.W.exm_one (M := model X.prog X.w) (J3.kIn) LT hb1
        refine wpAny_handleBy_cons (codeAny_handlers_test (names_test hc S3 (LM.here ?_))) (by intro q; cases q)
        cases b with
        | false => exact ih (hno rfl)
        | true =>
          refine codeAny_handlers_suite (HandSPX.lands_againZ fl3 fun h4 fl4 up4 => ?_)
          have J4 : Inv X pins σ' H' { s' with heap := h4 } := J.landed nb fl4.1 ((up.trans up3).trans up4) os ag
          obtain ⟨oe4, vs4, he4, hz4, hd4⟩ := fl4.there
          exact wpAny_mono ((hsu a oe4 cls d (X.pn ++ pins) hz4 ⟨_, hd4⟩).run [] _ _ H' _ (J4.suite he4 hd4 na nL nF) (hyes rfl a na)) (fun f s6 hsp => suite_end ok hsp) (fun _ _ z => False.elim z)
      | @a x n c i ts b0 su np ps hds2 l2 hN hi hln hc hsu r ih =>
        intro w
        obtain ⟨b, hb1, hyes, hno⟩ := w
        have LM := PySem.W.exm_one (M := model X.prog X.w) (J3.kIn) LT hb1
        refine wpAny_handleBy_cons (codeAny_handlers_test (names_test hc S3 (LM.here ?_))) (by intro q; cases q)
        cases b with
        | false => exact ih (hno rfl)
        | true =>
          refine codeAny_handlers_suite_as (HandSPX.lands_againZ fl3 fun h4 fl4 up4 => ?_)
          have J4 : Inv X pins σ' H' { s' with heap := h4 } := J.landed nb fl4.1 ((up.trans up3).trans up4) os ag
          obtain ⟨oe4, vs4, he4, hz4, hd4⟩ := fl4.there
          refine store_ok (X := X.suite a ((a, oe4) :: (X.pn ++ pins))) (v := .ref a) (J4.suite he4 hd4 na nL nF) hN hi (.inl hln) rfl (fun s5 S5 => ?_) (.inr hln)
          refine wpAny_mono ((hsu a oe4 cls d (X.pn ++ pins) hz4 ⟨_, hd4⟩).run [] s5 _ H' _ S5 (hyes rfl a na)) (fun f s6 hsp => ?_) (fun _ _ z => False.elim z)
          have end_ : ∀ {σ6 : L2.St} {H6 : Hp} {Q : Shared → Prop}, Inv (X.suite a ((a, oe4) :: (X.pn ++ pins))) [] σ6 H6 s6 → (∀ s7, Inv X pins (σ6.set i none) H6 s7 → Q s7) →
              wpAny (model X.prog X.w) X.A (do bindName X.env n .none; unbindBehindTheSuite X.env n ps) (fun _ s7 => Q s7) X.xe s6 := fun S6 hq => gone_ok (S6.unsuite ok) hN hi hln hq
          cases f with
          | next => obtain ⟨σ6, H6, S6, q6⟩ := hsp; exact end_ S6 fun s7 J7 => ⟨_, _, J7, q6⟩
          | brk => obtain ⟨σ6, H6, S6, q6⟩ := hsp; exact end_ S6 fun s7 J7 => ⟨_, _, J7, q6⟩
          | cont => obtain ⟨σ6, H6, S6, q6⟩ := hsp; exact end_ S6 fun s7 J7 => ⟨_, _, J7, q6⟩
          | ret u => obtain ⟨v6, σ6, H6, S6, r6, q6⟩ := hsp; exact end_ S6 fun s7 J7 => ⟨_, _, _, J7, r6, q6⟩
    exact go hh w
/-- nothing comes out -/
theorem tk0 : Takes X (fun _ _ _ _ => False) := fun _ _ ⟨_, _, _, _, _, _, _, _, _, _, _, _, _, _, _, _, w⟩ => w.elim
end
/-- the class and the field of what is raised -/
def xIs (k f : Str) : Xc → Option Int
  | .one k' f' n => if k' = k ∧ f' = f then some n else none
  | .nul _ => none
theorem xIs_eq {k f : Str} {x : Xc} {n : Int} (h : xIs k f x = some n) : x = .one k f n := by
  cases x with
  | one k' f' m =>
    rcases Decidable.em (k' = k ∧ f' = f) with hc | hc
    · rw [xIs, if_pos hc] at h
      rw [hc.1, hc.2, Option.some.inj h]
    · rw [xIs, if_neg hc] at h
      exact nomatch h
  | nul k' => cases h
section
variable {c : Ct} {te ta tb tc : TE} {tt tu : TT} {tl tr : TA} {σ : L2.St} {B H : Hp} {ks : List Addr} {os o1 o2 o3 o4 : List Cs} {S T U : Sv} {Ss Ts : List Sv} {i : Nat} {v : V} {r : R2} {α β γ : Type} {R : Rl α} {R' : Rl β} {xs ys : List α} {x y : α} {p q : Addr} {D : Ends}
/-- calls in a try -/
theorem ev_callSok {γ δ : Type} {ga : Str → Addr} {as : γ → List Sv} {m : γ → Rs δ} {Rr : Rl δ} {g : γ} {y : δ} {E : L2.St → XK} {tl : TA} (ha : EvA c tl σ B ks o1 o2 Ss) (hl : ALe c ks o2 ks Ss (as g)) (hm : m g = some (.ok y)) : Ev c (tCallS (PrX c.K ga as m Rr) E tl) σ B ks o1 o2 (Rr.g c.K c.Hs y) := fun B1 H1 e w Q k => by
  have z := ev_callXok (Rr := Rr) (ga := ga) (E := E σ) ha hl hm B1 H1 e w Q k
  unfold tCall at z
  simp only [List.append_nil] at z
  exact z
theorem ev_callSaok {γ δ : Type} {ga : Str → Addr} {as : γ → List Sv} {m : γ → Rs δ} {Rr : Rl δ} {g : γ} {y : δ} {E : L2.St → XK} {tl : TA} (ha : EvA c tl σ B ks o1 o2 Ss) (hl : ALe c ks o2 [] Ss (as g)) (hm : m g = some (.ok y)) : Ev c (tCallS (PrXa c.K ga as m Rr) E tl) σ B ks o1 o2 (Rr.s c.K y) := fun B1 H1 e w Q k => by
  have z := ev_callXaok (Rr := Rr) (ga := ga) (E := E σ) ha hl hm B1 H1 e w Q k
  unfold tCall at z
  simp only [List.append_nil] at z
  exact z
theorem callS {γ δ : Type} {ga : Str → Addr} {as : γ → List Sv} {m : γ → Rs δ} {Rr : Rl δ} {g : γ} {x : Xc} {E : L2.St → XK} {tl : TA} {Q : VK} (w : Wd c B H ks o1) (ha : EvA (c.at H) tl σ B ks o1 o2 Ss) (hl : ALe (c.at H) ks o2 ks Ss (as g)) (hm : m g = some (.error x))
    (er : ∀ cls d B2 H2, Same B B2 → Wd c B2 H2 ks o2 → XR ga x cls d B2 → E σ cls d H2) : tCallS (PrX c.K ga as m Rr) E tl σ H Q := by
  have z := callX (Rr := Rr) (E := E σ) (Q := Q) w ha hl hm er
  unfold tCall at z
  simp only [List.append_nil] at z
  exact z
theorem callSa {γ δ : Type} {ga : Str → Addr} {as : γ → List Sv} {m : γ → Rs δ} {Rr : Rl δ} {g : γ} {x : Xc} {E : L2.St → XK} {tl : TA} {Q : VK} (w : Wd c B H ks o1) (ha : EvA (c.at H) tl σ B ks o1 o2 Ss) (hl : ALe (c.at H) ks o2 [] Ss (as g)) (hm : m g = some (.error x))
    (er : ∀ cls d B2 H2, Same B B2 → Wd c B2 H2 ks o2 → XR ga x cls d B2 → E σ cls d H2) : tCallS (PrXa c.K ga as m Rr) E tl σ H Q := by
  have z := callXa (Rr := Rr) (E := E σ) (Q := Q) w ha hl hm er
  unfold tCall at z
  simp only [List.append_nil] at z
  exact z
/-- e.f -/
theorem ev_fld {C a dd : Addr} {f : Str} {n : Int} (he : Ev c te σ B ks o1 o2 (SA a)) (hx : B dd = some (.xd [(f, .int n)])) : Ev c (tXf a (.ref C) (some dd) C f te) σ B ks o1 o2 (rInt.s c.K n) := fun B1 H1 e w Q k => he B1 H1 e w _ fun v B2 H2 e2 w2 s => by
  refine ⟨s, rfl, dd, _, .int n, rfl, w2.ex _ _ (e2 _ _ (e _ _ hx)), ?_, k _ B2 H2 e2 w2 rfl⟩
  simp [List.lookup]
end
end Dl
namespace Dl
open PySem PySem.Spec L2 PyProof.Rows
def xM {δ : Type} (o : Option Int) (f : Int → Option δ) (k : Option δ) : Option δ := match o with
  | some n => f n
  | none => k
theorem xM_some {δ : Type} {o : Option Int} {f : Int → Option δ} {k z : Option δ} {n : Int} (h : o = some n) (hm : xM o f k = z) : f n = z := by subst h; exact hm
theorem xM_none {δ : Type} {o : Option Int} {f : Int → Option δ} {k z : Option δ} (h : o = none) (hm : xM o f k = z) : k = z := by subst h; exact hm
section
variable {K : Fg} {Wout : WX} {D : Ends} {l : List Hd} {c cls : Value} {d : Option Addr} {σ : L2.St} {H : Hp} {i : Nat} {ts : SuiteT}
theorem wH_no (h : PySem.W.exmOne K cls c = some false) (k : wHs K Wout D l cls d σ H) : wHs K Wout D (.p c ts :: l) cls d σ H := ⟨false, h, fun z => (nomatch z), fun _ => k⟩
theorem wH_noA (h : PySem.W.exmOne K cls c = some false) (k : wHs K Wout D l cls d σ H) : wHs K Wout D (.a c i ts :: l) cls d σ H := ⟨false, h, fun z => (nomatch z), fun _ => k⟩
theorem wH_yes (h : PySem.W.exmOne K cls c = some true) (k : ∀ a, H a = none → ts a cls d D σ H) : wHs K Wout D (.p c ts :: l) cls d σ H := ⟨true, h, fun _ => k, fun z => nomatch z⟩
theorem wH_yesA (h : PySem.W.exmOne K cls c = some true) (k : ∀ a, H a = none → ts a cls d (goneE i D) (σ.set i (some (.ref a))) H) : wHs K Wout D (.a c i ts :: l) cls d σ H := ⟨true, h, fun _ => k, fun z => nomatch z⟩
end
end Dl
namespace Dl
theorem non_opt {α : Type} {R : Rl α} {K : Fg} : Sle (rUnit.s K ()) ((rOpt R).s K none) := fun _ _ h => h
end Dl

/-! Ev11 -/
set_option Elab.async false
set_option linter.all false
set_option maxRecDepth 100000
set_option maxHeartbeats 2000000
namespace PySem.W
open PySem PySem.Spec PySem.Calls PyProof.Rows
section
variable {prog : Program} {w : World} {A : Around} {E : Value → Shared → Prop} {s : Shared} {K : Frag} {x D : Addr} {ox : Obj} {od : Option Obj}
/-- __class__ of a caught error, with its dict or without -/
theorem xd_class {Q : Option Value → Shared → Prop} (C : L2.ExcC K D) (X : K.In s.heap) (I : InstAt s.heap x ox D od) (h : Q (some (.ref D)) { s with toks := s.toks + 1 }) : wpAny (model prog w) A (getAttr? (.ref x) "__class__") Q E s := by
  have hf : findObj K D od "__class__" = some (.bind (.builtin "getset_descriptor.__get__") (.builtin "object.__class__")) := by
    obtain ⟨cd, hc, _⟩ := any_some C.hd
    unfold findObj
    rw [hc, Option.bind_some, C.ha, Option.bind_some]
    simp [C.hn, C.ht]
  obtain ⟨hp, g, d, t, os⟩ := s
  have L0 := I.type (M := model prog w); have L1 := looks_findIn (M := model prog w) X C.hg
  have L2 := looks_findIn (M := model prog w) X C.hk; have L3 := looks_find (M := model prog w) X I hf
  have sub : Looks (model prog w) hp (isInstance (.ref x) (.type "BaseException")) true := L0.andThen (looks_subIn X C.hs)
  have hx2 : (Value.builtin "BaseException.__getattribute__" == Value.builtin "object.__getattribute__") = false := by decide +kernel
  have hx0 : (false && onTheHeap (Value.builtin "BaseException.__getattribute__")) = false := rfl
  have hx1 : (onTheHeap (Value.ref D) && Value.builtin "BaseException.__getattribute__" == Value.builtin "object.__getattribute__") = false := by
    rw [hx2]; rfl
  unfold getAttr? getAttrBy? getAttrBy
  refine wpAny_bind (wpAny_mkText (wpAny_bind (wpAny_attempt (wpAny_holding (wpAny_bind (L0.at (wpAny_bind (L1.at ?_))))))))
  show wpAny _ _ (if (onTheHeap (Value.ref D) && Value.builtin "BaseException.__getattribute__" == Value.builtin "object.__getattribute__") = true
    then _ else _) _ _ _
  rw [hx1, if_neg Bool.false_ne_true]; unfold getAttrByItsOwn hookBefore
  refine wpAny_bind ?_
  have hT : onTheHeap (Value.ref D) = true := rfl
  rw [if_pos hT]
  refine L2.at (wpAny_bind (wpAny_attempt (wpAny_holding ?_)))
  unfold callGetattribute
  rw [hx0, if_neg Bool.false_ne_true]; unfold boundAndCalled
  rw [PySem.F.excAttr_ValueError.ga.bind (.ref x)]
  refine wpAny_bind (wpAny_pure ?_)
  show wpAny _ _ (call (.builtin "BaseException.__getattribute__")
    [.ref x, .str "__class__" t]) _ _ _
  refine wpAny_call (codeAny_call_builtin PySem.F.excAttr_ValueError.ga.plain PySem.F.entry_bexc_ga (@check_slot (model prog w) _ _ ⟨hp, g, d, t + 1, os⟩ "BaseException.__getattribute__" "BaseException" "__getattribute__" (.ref x) [.str "__class__" t] [] _ (by decide +kernel) (by decide +kernel) sub (PySem.F.args_bexc_ga (.ref x) (.str "__class__" t)) ?_))
  unfold Builtin.«object.__getattribute__»
  refine wpAny_bind (wpAny_of_eq (a := ((Value.ref x : Value), [Value.str "__class__" t])) (by first | rfl | (simp only [slotArgs]; rfl)) (wpAny_bind (wpAny_pure (wpAny_bind (L0.at (wpAny_bind (L3.at ?_)))))))
  show wpAny _ _ (holding [Value.builtin "object.__class__"] (call (.builtin "getset_descriptor.__get__")
    [.builtin "object.__class__", .ref x, .ref D]) >>= ret) _ _ _
  refine wpAny_bind (wpAny_holding (wpAny_call (class_get (s := ⟨hp, g, d, t + 1, os⟩) (ox := ox) (od := od) X I C.hm (wpAny_pure ?_))))
  show wpAny _ _ (handedOut (.ref D)) _ _ _
  rw [handedOut_of (v := .ref D) rfl]
  first | exact wpAny_pure (wpAny_pure h) | exact wpAny_pure h | exact wpAny_pure (wpAny_bind (wpAny_pure (wpAny_pure h)))
theorem xd_kit (C : L2.ExcC K D) : KitX K (.ref x) (.ref D) (fun h => ∃ ox od, InstAt h x ox D od) := by
  obtain ⟨cdD, hcD, _⟩ := any_some C.hd
  have hk : ∃ c' d' cd' sl', K.lookup D = some ⟨c', d', .cls cd', sl'⟩ := by
    unfold clsIn at hcD
    split at hcD
    · rename_i c' d' cd' sl' ho
      exact ⟨_, _, _, _, ho⟩
    · cases hcD
  obtain ⟨c', d', cd', sl', ho⟩ := hk
  refine ⟨fun _ _ _ ⟨_, _, I⟩ => I.type, fun _ _ X _ A' Q' E' s' k q => ?_, fun h tp dd its n sl X htp => ?_, fun X ⟨_, _, I⟩ k => xd_class C X I k⟩
  · unfold isType loadHead
    exact wpAny_bind (wpAny_loadPart (k _ _ (X _ _ ho)) (wpAny_pure q))
  · refine Bool.eq_false_iff.mpr fun q => ?_
    have e : D = tp := Value.ref.inj (beq_iff_eq.mp q)
    subst e
    have z := (X _ _ ho).symm.trans htp
    cases z
end
end PySem.W
namespace Dl
open PySem PySem.Spec L2 PyProof.Rows
/-- isinstance(e, c), isinstance(e, (c, ..)), e what the suite holds, of the class D -/
def rXE (K : Fg) (D a : Addr) (cls : Value) (d : Option Addr) : List V → Hp → VK → Prop := fun xs H Q => cls = .ref D ∧ (∃ dd fs, d = some dd ∧ H dd = some (.xd fs)) ∧ ∃ (cv : V) (u : Value) (b : Bool), xs = [.ref a, cv] ∧ ClsV cv u ∧ PySem.W.kitOne K (.ref D) u = some b ∧ Q (.bl b) H
def rXT (K : Fg) (D a : Addr) (cls : Value) (d : Option Addr) : List V → Hp → VK → Prop := fun xs H Q => cls = .ref D ∧ (∃ dd fs, d = some dd ∧ H dd = some (.xd fs)) ∧ ∃ (tp : Addr) (cs : List V) (us : List Value) (b : Bool), xs = [.ref a, .ref tp] ∧ H tp = some (.tup cs) ∧ Paired ClsV cs us ∧ PySem.W.kitAny K (.ref D) us = some b ∧ Q (.bl b) H
section
variable {X : Cx} {K : Fg} {a D : Addr} {oe : Obj} {cls : Value} {d : Option Addr} {pn : List (Addr × Obj)}
theorem inst_of {pins : List (Addr × Obj)} {σ : L2.St} {H : Hp} {s : Shared} (I : Inv (X.suite a ((a, oe) :: pn)) pins σ H s) (hz : Zc (.ref D) d oe) (hf : ∃ vs, oe.data = .fields vs) (hd : ∃ dd fs, d = some dd ∧ H dd = some (.xd fs)) : ∃ ox od, PySem.W.InstAt s.heap a ox D od := by
  obtain ⟨hget, _⟩ := I.pin (a, oe) (List.mem_append.mpr (.inl List.mem_cons_self))
  obtain ⟨vs, hv⟩ := hf
  obtain ⟨dd, fs, rfl, ea⟩ := hd
  have hx : ObjOk X.prog X.w H s.heap dd (.xd fs) := I.hok dd _ ea
  obtain ⟨mA, hns, _⟩ := hx
  obtain ⟨od, ho, _⟩ := lookIn_ns hns
  exact ⟨oe, some od, hget, hz.1, by unfold PySem.W.notCls; rw [hv] <;> rfl, by rw [hz.2]; exact ho⟩
theorem xE_one (hK : X.K = K) (C : ExcC K D) (hz : Zc cls d oe) (hf : ∃ vs, oe.data = .fields vs) : CallR (X.suite a ((a, oe) :: pn)) (.builtin "isinstance") (rXE K D a cls d) := by
  intro pins s σ H xs us Q I r h
  obtain ⟨rfl, hd, c, u, b, rfl, k, e, q⟩ := h
  obtain ⟨u1, u2, rfl, r1, r2⟩ := vals2 r
  cases k.eq r2
  cases (show u1 = Value.ref a from r1)
  subst hK
  exact PySem.W.kia_one (PySem.W.xd_kit C) I.kIn (inst_of I hz hf hd) e (fun z => nomatch z) fun tk => ⟨.bl b, H, I.tok tk, rfl, q⟩
theorem xE_tup (hK : X.K = K) (C : ExcC K D) (hz : Zc cls d oe) (hf : ∃ vs, oe.data = .fields vs) : CallR (X.suite a ((a, oe) :: pn)) (.builtin "isinstance") (rXT K D a cls d) := by
  intro pins s σ H xs us Q I r h
  obtain ⟨rfl, hd, tp, cs, ws, b, rfl, hT, k, e, q⟩ := h
  obtain ⟨u1, u2, rfl, r1, r2⟩ := vals2 r
  cases (show u2 = Value.ref tp from r2)
  cases (show u1 = Value.ref a from r1)
  subst hK
  have hI := inst_of I hz hf hd
  obtain ⟨_, its, rv, o, h1, h2, n, h3⟩ := (show ObjOk X.prog X.w H s.heap tp (.tup cs) from I.hok tp _ hT)
  cases ClsV.all k rv
  obtain ⟨oc, od, dt, sl⟩ := o
  simp only at h2 h3
  subst h2 h3
  exact PySem.W.kia_tup (PySem.W.xd_kit C) I.kIn hI h1 e (fun z => nomatch z) fun tk => ⟨.bl b, H, I.tok tk, rfl, q⟩
end
section
variable {c : Ct} {te ta tb tc : TE} {tt tu : TT} {tl tr : TA} {σ : L2.St} {B H : Hp} {ks : List Addr} {os o1 o2 o3 o4 : List Cs} {D a dd : Addr} {fs : List (Str × V)}
theorem ev_xE {C : Addr} {b : Bool} (he : Ev c te σ B ks o1 o2 (SA a)) (hx : B dd = some (.xd fs)) (hk : PySem.W.kitOne c.K (.ref D) (.ref C) = some b) : Ev c (tCB (rXE c.K D a (.ref D) (some dd)) (tCons te (tCons (tC (.ref C)) tNil))) σ B ks o1 o2 (rBool.s c.K b) := fun B1 H1 e w Q k =>
  he B1 H1 e w _ fun v B2 H2 e2 w2 s => ⟨rfl, ⟨dd, fs, rfl, w2.ex _ _ (e2 _ _ (e _ _ hx))⟩, .ref C, _, b, by rw [show v = .ref a from s], .own C, hk, k _ B2 H2 e2 w2 rfl⟩
theorem ev_xT {cs : List Addr} {b : Bool} (he : Ev c te σ B ks o1 o2 (SA a)) (hl : EvA c tl σ B ks o2 o2 (cs.map SA)) (hc : cs.length ≤ 1000) (hx : B dd = some (.xd fs)) (hk : PySem.W.kitAny c.K (.ref D) (cs.map Value.ref) = some b) : Ev c (tCB (rXT c.K D a (.ref D) (some dd)) (tCons te (tCons (tTup tl) tNil))) σ B ks o1 o2 (rBool.s c.K b) := fun B1 H1 e w Q k =>
  he B1 H1 e w _ fun v B2 H2 e2 w2 s => hl B2 H2 (e.trans e2) w2 _ fun vs B3 H3 e3 w3 ss => by
    have ev : vs = cs.map V.ref := by
      clear hk hc hl
      generalize hz : cs.map SA = Ss at ss
      induction ss generalizing cs with
      | nil => cases cs with
        | nil => rfl
        | cons x xs => cases hz
      | cons h t ih => cases cs with
        | nil => cases hz
        | cons x xs =>
          cases hz
          rw [List.map_cons, ih rfl]
          cases (show _ = V.ref x from h)
          rfl
    subst ev
    refine ⟨by rw [List.length_map, sizeLine_eq]; omega, fun p n => ?_⟩
    obtain ⟨up, w4⟩ := w3.new n (.tup (cs.map V.ref))
    refine ⟨rfl, ⟨dd, fs, rfl, w4.ex _ _ (up _ _ (e3 _ _ (e2 _ _ (e _ _ hx))))⟩, p, _, _, b, by rw [show v = .ref a from s], upd_same, ?_, hk, k _ _ _ ((e2.trans e3).trans up) w4 rfl⟩
    have : ∀ cs : List Addr, Paired ClsV (cs.map V.ref) (cs.map Value.ref) := fun cs => by
      induction cs with
      | nil => exact .nil
      | cons x xs ih => exact .cons (.own x) ih
    exact this cs
end
end Dl

/-! Ev12 -/
set_option Elab.async false
set_option linter.all false
set_option maxRecDepth 100000
set_option maxHeartbeats 2000000
namespace Dl
open PySem PySem.Spec L2 PyProof.Rows
/-- the script: a list that may stand in the written part -/
def rScr : Rl (List Int) where
  r K B v xs := ∃ p, v = .ref p ∧ SqL K B p (xs.map V.int)
  f _ _ _ _ _ := False
  mono e h := let ⟨p, a, b⟩ := h; ⟨p, a, Same.seq e b⟩
  fr h := h.elim
  ftr _ h := h
  fanti _ h := h
section
variable {c : Ct} {te ta tb tc : TE} {tt tu : TT} {tl tr : TA} {σ : L2.St} {B H : Hp} {ks : List Addr} {os o1 o2 o3 o4 : List Cs} {S T U : Sv} {Ss Ts : List Sv} {i : Nat} {v : V} {α β γ : Type} {R : Rl α} {R' : Rl β} {xs ys : List α} {x y : α} {p q : Addr} {D : Ends} {zs : List Int}
theorem ev_lenZ (ha : Ev c ta σ B ks o1 o2 (rScr.s c.K zs)) : Ev c (tCB (fun xs H Q => ∃ p ys, xs = [.ref p] ∧ (SqL c.K H p ys ∨ SqT c.K H p ys) ∧ Q (.int ys.length) H) (tCons ta tNil)) σ B ks o1 o2 (rInt.s c.K (zs.length : Int)) :=
  ev_cb1 ha fun x B2 H2 w ⟨p, a, b⟩ Q k => ⟨p, _, by rw [a], .inl (Same.seq w.ex b), by rw [List.length_map]; exact k _ B2 H2 (Same.refl _) w rfl⟩
theorem ev_ixZ {n z : Int} (ha : Ev c ta σ B ks o1 o2 (rScr.s c.K zs)) (hb : Ev c tb σ B ks o2 o3 (rInt.s c.K n)) (hx : atI zs n = some z) : Ev c (tOp (rIxL c.K) ta tb) σ B ks o1 o3 (rInt.s c.K z) :=
  ev_op0 ha hb fun a b B2 H2 w ⟨p, e, h⟩ t => by
    obtain ⟨u, hu, ru⟩ := patI (ints_v (K := c.K) (B := B2) zs) hx
    exact ⟨u, ru, fun Q k => ⟨p, _, n, u, e, t, Same.seq w.ex h, hu, k⟩⟩
/-- something new is taken out of the pure part, to be changed -/
theorem Wd.thaw {B1 : Hp} {H1 : Hp} (w1 : Wd c B1 H1 ks o1) (w3 : Wd c B H ks os) (e : Same B1 B) (hi : Imm R) (ai : AllI os) (h : (SN R c.K H1 xs).p v B) : ∃ p, v = .ref p ∧ c.H0 p = none ∧ Same B1 (hid p B) ∧ Wd c (hid p B) H (p :: ks) (CL R c.K xs :: os) := by
  obtain ⟨p, vs, a, n, b, d⟩ := h
  subst a
  have np : p ∉ ks := fun m => by rw [w3.off m] at b; cases b
  have im : ∀ a u, B a = some u → isM u = false → hid p B a = some u := fun a u z m => by
    rw [hid_ne (fun ea => by subst ea; rw [b] at z; cases z; cases m)]; exact z
  have up : Same B1 (hid p B) := fun a u h => by
    rw [hid_ne (ne_of_none (w1.ex a u h) n)]; exact e a u h
  refine ⟨p, rfl, w1.new0 n, up, ⟨fun a u h => ?_, List.nodup_cons.mpr ⟨np, w3.nd⟩, .cons ⟨.lst vs, w3.ex _ _ b, hid_at, rfl, vs, rfl, pmap d fun _ _ q => imm_tr hi im q⟩ (cel_hid im np ai w3.cell), fun a h => ?_, ?_, w3.hs⟩⟩
  · by_cases ea : a = p
    · rw [ea, hid_at] at h; cases h
    · rw [hid_ne ea] at h; exact w3.ex a u h
  · rcases List.mem_cons.mp h with rfl | h
    · exact .inr (w1.new0 n)
    · exact w3.own a h
  · exact ⟨fun a u h => up a u (w1.st.up a u h), fun a h => by rw [hid_ne (fun ea => h (by rw [ea]; exact w1.new0 n))]; exact w3.st.old a h, w3.st.keep, w3.st.tr⟩
/-- what is handed in to be changed is made for the call -/
theorem ev_call1f {γ δ ε : Type} {as : γ → Addr → List Sv} {Ci : γ → Cs} {m : γ → Option (δ × ε)} {Co : ε → Cs} {Rr : Rl δ} {g : γ} {z : δ × ε} {E : XK} (h1 : ∀ Hh, Ev (c.at Hh) te σ B ks o1 o2 (SN R c.K Hh xs)) (hi : Imm R) (ai : AllI o2) (hr : ∀ p, EvA c tr σ B (p :: ks) (CL R c.K xs :: o2) (CL R c.K xs :: o3) Ss)
    (ho : Ci g = CL R c.K xs) (hl : ∀ p, ALe c (p :: ks) (CL R c.K xs :: o3) ks (SA p :: Ss) (as g p)) (hm : m g = some z) (hC : CsI (Co z.2)) : Ev c (tCall (Pr1 c.K as Ci m Co Rr) [] E (tCons te tr)) σ B ks o1 o3 (Rr.g c.K c.Hs z.1) := fun B1 H1 e w Q k =>
  h1 H1 B1 H1 e w.at _ fun v B2 H2 e2 w2 s => by
    obtain ⟨p, ev, n0, up, w3⟩ := w.thaw (w.un w2) e2 hi ai s
    subst ev
    exact ev_call1 (E := E) (c := c) (σ := σ) (B := B) 0 rfl (ea_cons (te := tC (.ref p)) (S := SA p) (ev_c fun _ => rfl) (hr p)) (by rw [ho]; rfl) (hl p) hm hC (hid p B2) H2 (e.trans up) w3 Q fun v B3 H3 e3 w4 r => k v B3 H3 (up.trans e3) w4.drop r
theorem ev_call1fa {γ δ ε : Type} {as : γ → Addr → List Sv} {Ci : γ → Cs} {m : γ → Option (δ × ε)} {Co : ε → Cs} {Rr : Rl δ} {g : γ} {z : δ × ε} {E : XK} (h1 : ∀ Hh, Ev (c.at Hh) te σ B ks o1 o2 (SN R c.K Hh xs)) (hi : Imm R) (ai : AllI o2) (hr : ∀ p, EvA c tr σ B (p :: ks) (CL R c.K xs :: o2) (CL R c.K xs :: o3) Ss)
    (ho : Ci g = CL R c.K xs) (hl : ∀ p, ALe c (p :: ks) (CL R c.K xs :: o3) [] (SA p :: Ss) (as g p)) (hm : m g = some z) : Ev c (tCall (Pr1a c.K as Ci m Co Rr) [] E (tCons te tr)) σ B ks o1 o3 (Rr.s c.K z.1) := fun B1 H1 e w Q k =>
  h1 H1 B1 H1 e w.at _ fun v B2 H2 e2 w2 s => by
    obtain ⟨p, ev, n0, up, w3⟩ := w.thaw (w.un w2) e2 hi ai s
    subst ev
    exact ev_call1a (E := E) (c := c) (σ := σ) (B := B) 0 rfl (ea_cons (te := tC (.ref p)) (S := SA p) (ev_c fun _ => rfl) (hr p)) (by rw [ho]; rfl) (hl p) hm (hid p B2) H2 (e.trans up) w3 Q fun v B3 H3 e3 w4 r => k v B3 H3 (up.trans e3) w4.drop r
end
end Dl

/-! Ev13 -/
set_option Elab.async false
set_option linter.all false
set_option maxRecDepth 100000
set_option maxHeartbeats 2000000
namespace Dl
open PySem PySem.Spec L2 PyProof.Rows
def Flt (s : Cs) : Prop := ∀ (B B' : Hp) (o : HO), s.p B o → s.p B' o
def AllF : List Cs → Prop
  | [] => True
  | s :: r => Flt s ∧ AllF r
theorem flt_int {K : Fg} {xs : List Int} : Flt (CL rInt K xs) := fun B B' o ⟨vs, a, d⟩ => ⟨vs, a, pmap d fun _ _ h => h⟩
def spoilO (xss : List (List Int)) : Option Unit := if xss.all (fun xs => decide (xs.length + xss.length < 1000000)) then some () else none
section
variable {c : Ct} {te ta tb tc : TE} {σ : L2.St} {B H Ba Ha : Hp} {ks ks0 ks1 ka : List Addr} {os os0 os1 oa o1 o2 : List Cs} {S T U : Sv} {v : V} {α β : Type} {R : Rl α} {R' : Rl β} {x : α} {y : β} {p q : Addr} {D : Ends} {xss : List (List Int)}
theorem ev_T2bg {z : α × β} (ha : Ev c ta σ B ks o1 o2 ((rT2 R R').g c.K H z)) : Ev c (tOp (rIxT c.K) ta (tC (.int 1))) σ B ks o1 o2 (R'.g c.K H z.2) :=
  ev_op0 ha ev_int fun a b B2 H2 w ⟨p, v1, v2, e, h, d1, d2⟩ t => ⟨v2, d2, fun Q k => ⟨p, _, 1, v2, e, t, sqt_same w.ex h, rfl, k⟩⟩
theorem c_inrG {K : Fg} {z : α ⊕ β} (h : inrO z = some y) : Sle ((rEi R R').g K H z) (R'.g K H y) := by
  cases z with
  | inl a => cases h
  | inr b => cases h; exact fun _ _ h => h
theorem pflt : ∀ {ks : List Addr} {os : List Cs} {F G : Addr → Cs → Prop}, AllF os → Paired F ks os → (∀ a s, a ∈ ks → Flt s → F a s → G a s) → Paired G ks os
  | _, _, _, _, _, .nil, _ => .nil
  | _, _, _, _, ai, .cons a t, k => .cons (k _ _ List.mem_cons_self ai.1 a) (pflt ai.2 t fun a s m => k a s (List.mem_cons_of_mem _ m))
/-- for row in new rows: row.append(n) -/
theorem s_spoil {j : Nat} {n : Int} {x0 : Option V} (w : Wd c B H (ks0 ++ ks1) (os0 ++ os1)) (hlen : ks0.length = os0.length) (flt : AllF os0) (wa : Wd c Ba Ha ka oa) (eab : Same Ba B)
    (he : Ev (c.at H) te σ B (ks0 ++ ks1) (os0 ++ os1) (os0 ++ os1) (rLL.g c.K Ha xss)) (hN : spoilO xss = some ()) (hj : σ[j]? = some x0)
    (k : ∀ x B2 H2, Same Ba B2 → Wd c B2 H2 ks0 os0 → D.nx (σ.set j x) H2) : tFor (iList c.K te) (gName j) (tDrop (tBM c.K "list" rAppend (tVar j) (tCons (tC (.int n)) tNil))) D σ H :=
  he B H (Same.refl _) w.at _ fun v B2 H2 e2 w2' ⟨p, rs, ev, np, bp, nd, d⟩ => by
    subst ev
    have w2 := w.un w2'
    have hl : rs.length = xss.length := Paired.length d
    have hN2 : ∀ xs ∈ xss, xs.length + xss.length < 1000000 := by
      unfold spoilO at hN
      split at hN
      · rename_i hc
        exact fun xs hx => of_decide_eq_true (List.all_eq_true.mp hc xs hx)
      · cases hN
    have hjl : j < σ.length := (List.getElem?_eq_some_iff.mp hj).1
    have fr : ∀ r ∈ rs, Ha r = none ∧ ∃ ns, B2 r = some (.lst ns) := fun r hr => by
      obtain ⟨xs, z1, z2⟩ := pmem d r hr
      exact ⟨z1, _, z2⟩
    have pr : p ∉ rs := fun m => by
      obtain ⟨xs, z1, z2⟩ := pmem d p m
      rw [bp] at z2
      cases rs with
      | nil => cases m
      | cons r0 rs => cases xs <;> cases z2
    let Iv : Nat → Hp → Prop := fun i H' => (∀ r ∈ rs, ∃ ns : List Int, H' r = some (.lst (ns.map V.int)) ∧ ns.length + (rs.length - i) < 1000000) ∧ ∀ a, a ∉ rs → H' a = H2 a
    have i0 : Iv 0 H2 := ⟨fun r hr => by
      have : ∀ {rs : List Addr} {xss : List (List Int)}, Paired (RwF Ha B2) rs xss → r ∈ rs → ∃ xs ∈ xss, B2 r = some (.lst (xs.map V.int)) := by
        intro rs xss d
        induction d with
        | nil => exact fun h => nomatch h
        | cons a t ih =>
          intro h
          rcases List.mem_cons.mp h with rfl | h
          · exact ⟨_, List.mem_cons_self, a.2⟩
          · obtain ⟨xs, h1, h2⟩ := ih h
            exact ⟨xs, List.mem_cons_of_mem _ h1, h2⟩
      obtain ⟨xs, h1, h2⟩ := this d hr
      exact ⟨xs, w2.ex _ _ h2, by have := hN2 xs h1; omega⟩, fun a _ => rfl⟩
    have pl : ∀ {i : Nat} {H' : Hp}, Iv i H' → SqL c.K H' p (rs.map V.ref) := fun h => SqL.of (by rw [h.2 p pr]; exact w2.ex _ _ bp)
    refine ⟨p, rfl, ⟨_, pl i0⟩, fun i m σ' H' => m = rs.length - i ∧ i ≤ rs.length ∧ (∃ x, σ' = σ.set j x) ∧ Iv i H', ⟨_, rfl, Nat.zero_le _, ⟨x0, ?_⟩, i0⟩, ?_⟩
    · obtain ⟨_, he⟩ := List.getElem?_eq_some_iff.mp hj
      rw [← he, List.set_getElem_self]
    rintro i m σ' H' ⟨rfl, hil, ⟨x, rfl⟩, iv⟩
    by_cases hlt : i < rs.length
    · have hq : rs[i]? = some rs[i] := List.getElem?_eq_getElem hlt
      have hqv : (rs.map V.ref)[i]? = some (V.ref rs[i]) := by rw [List.getElem?_map, hq]; rfl
      refine .inr ⟨⟨_, _, pl iv, hqv⟩, fun σ2 H2' => (∃ x, σ2 = σ.set j x) ∧ Iv (i + 1) H2', fun σ2 H2' ⟨a, b⟩ => ⟨_, by omega, rfl, hlt, a, b⟩, fun v H'' hy => ?_⟩
      obtain ⟨rfl, hy⟩ := hy
      have hv := hy _ (pl iv)
      rw [hqv] at hv
      cases hv
      obtain ⟨ns, hr1, hr2⟩ := iv.1 rs[i] (List.getElem_mem hlt)
      refine ⟨.ref rs[i], by rw [List.set_set, List.getElem?_set_self hjl], ty_list hr1, rs[i], _, .int n, rfl, rfl, hr1, by rw [List.length_map, sizeLine_eq]; omega, ⟨_, List.set_set ..⟩, fun r hr => ?_, fun a ha => ?_⟩
      · by_cases er : r = rs[i]
        · subst er
          exact ⟨ns ++ [n], by rw [upd_same, List.map_append]; rfl, by rw [List.length_append, List.length_singleton]; omega⟩
        · obtain ⟨ms, h1, h2⟩ := iv.1 r hr
          exact ⟨ms, by rw [upd_ne er]; exact h1, by omega⟩
      · rw [upd_ne (fun e => ha (by rw [e]; exact List.getElem_mem hlt))]
        exact iv.2 a ha
    · refine .inl ⟨⟨_, pl iv, by rw [List.length_map]; omega⟩, ?_⟩
      have off : ∀ a, Ha a ≠ none → a ∉ rs := fun a h m => h (fr a m).1
      have e02 : Same Ba B2 := eab.trans e2
      have inH : ∀ a, H2 a ≠ none → H' a ≠ none := fun a h => by
        by_cases m : a ∈ rs
        · obtain ⟨ns, h1, _⟩ := iv.1 a m
          rw [h1]; exact fun z => nomatch z
        · rw [iv.2 a m]; exact h
      have sub : ∀ a ∈ ks0, a ∈ ks0 ++ ks1 := fun a h => List.mem_append_left _ h
      have offk : ∀ a ∈ ks0, a ∉ rs := fun a h m => by
        obtain ⟨_, ns, z⟩ := fr a m
        rw [w2.off (sub a h)] at z; cases z
      refine k x Ba H' (Same.refl _) ⟨fun a o h => ?_, (List.nodup_append.mp w2.nd).1, pflt flt (psplit hlen w2.cell).1 fun a s m fl ⟨o, q1, q2, q3, q4⟩ => ⟨o, by rw [iv.2 a (offk a m)]; exact q1, ?_, q3, fl _ _ _ q4⟩, fun a h => w2.own a (sub a h), ⟨wa.st.up, wa.st.old, fun a o h nk => ?_, fun a h => inH a (w2.st.tr a h)⟩, fun a h => inH a (w2.hs a h)⟩
      · have z := wa.ex a o h
        rw [iv.2 a (off a (by rw [z]; exact fun q => nomatch q))]
        exact w2.ex a o (e02 a o h)
      · cases z : Ba a with
        | none => rfl
        | some u => rw [e02 a u z] at q2; cases q2
      · rw [iv.2 a (off a (wa.st.tr a (by rw [h]; exact fun q => nomatch q)))]
        exact w2.st.keep a o h nk
end
end Dl

/-! Hk -/
set_option Elab.async false
set_option linter.all false
set_option maxRecDepth 100000
set_option maxHeartbeats 2000000
namespace Hk
open PySem PySem.Spec L2
abbrev Fg := PySem.W.Frag
/-! what the end leans on, of the error classes too -/
abbrev LowT : Type := Option (Arguments × FuncBody × Scope × Addr × Addr)
def iniA (K : Fg) (x : Str) : Addr := He.ma K (He.ga K x) "__init__"
def lowO (K : Fg) (x : Str) : LowT := match K.lookup (iniA K x) with
  | some ⟨_, _, .func fd, _⟩ => some (fd.params, fd.body, fd.scope, fd.globals, fd.builtins)
  | _ => none
def lowV (st : Stmt) : LowT := some (defArgs st, .stmts (defBody st), defScope st, mainGlobals, builtinsNs)
def clsB (K : Fg) (C : Addr) : Bool := match K.lookup C with
  | some ⟨.type "type", _, .cls cd, sl⟩ => (match cd.mro, sl.toList with
    | .ref C' :: bm, [_, _, _, _, some (.builtin n), _] => C' == C && (n == "ValueError.__new__" && (!cd.hasDel && (cd.hasDict && HandSPX.refsVE bm)))
    | _, _ => false)
  | _ => false
def iniB (K : Fg) (file : Str) (C f : Addr) : Bool := match K.lookup f with
  | some ⟨_, _, .func fd, _⟩ => PySem.W.codeIn K fd.code fd.qualname && ((match fd.closure with
      | [(n, cc)] => decide (n = ("__class__" : Str)) && (match K.lookup cc with
        | some ⟨_, _, .cell (some (.ref C')), _⟩ => decide (C' = C)
        | _ => false)
      | _ => false) && ((match fd.code with
      | .ref cda => (match K.lookup cda with
        | some ⟨_, _, .fields vs, _⟩ => (match (vs[2]? : Option Value) with
          | some (.str fl _) => (file == fl)
          | _ => false)
        | _ => false)
      | _ => false) && ((match fd.defaults with | .none => true | _ => false) && (match fd.kwdefaults with | .none => true | _ => false))))
  | _ => false
abbrev eqO := He.eqO
def lowB (file : Str) (x f1 : Str) (K : Fg) : Bool :=
  clsB K (He.ga K x) && (iniB K file (He.ga K x) (iniA K x) && (eqO (PySem.W.nsIn K mainGlobals "super") (some none) && (eqO (PySem.W.nsIn K cStatics "thirdparty.any") (some none) &&
  (decide (PySem.W.mroIn K (He.ga K x) (.ref (He.ga K x)) = some true) && (eqO (PySem.W.ks_superIn K (He.ga K x) (He.ga K x) "__init__") (some (some (.builtin "ValueError.__init__"))) &&
  (decide (PySem.W.subIn K (.ref (He.ga K x)) (.type "ValueError") = some true) && (PySem.W.excInitIn K (He.ga K x) HandSPX.veTail "ValueError.__new__" &&
  (eqO (PySem.W.findIn K (.ref (He.ga K x)) "__setattr__") (some (some (.builtin "object.__setattr__"))) && (eqO (PySem.W.findIn K (.ref (He.ga K x)) f1) (some none) &&
  (eqO (PySem.W.findIn K (.ref (He.ga K x)) "__init__") (some (some (.ref (iniA K x)))) && (decide (PySem.W.typeIn K (.ref (iniA K x)) = some (.type "function")) &&
  (decide (PySem.W.subIn K (.ref (He.ga K x)) (.type "BaseException") = some true) && (decide (PySem.W.typeIn K (.ref (He.ga K x)) = some (.type "type")) && PySem.W.keepIn K (.ref (He.ga K x)))))))))))))))
theorem clsB_ok {K : Fg} {C : Addr} (q : clsB K C = true) : ∃ nm qn N bs bm sn sub ab col dd k0 k1 k2 k3 k5, K.lookup C = some (excClassObj nm qn C N bs bm true sn sub ab col dd k0 k1 k2 k3 k5 "ValueError.__new__") ∧ HandSPX.refsVE bm = true := by
  unfold clsB at q
  split at q
  · rename_i dd cd sl ho
    split at q
    · rename_i C' bm k0 k1 k2 k3 n k5 hm hs
      simp only [Bool.and_eq_true, beq_iff_eq, Bool.not_eq_true'] at q
      obtain ⟨rfl, rfl, h1, h2, h3⟩ := q
      obtain ⟨nm, bs, mro, ns, qn, hd, sn, sub, ab, col, del⟩ := cd
      dsimp only at hm h1 h2
      subst hm h1 h2
      obtain ⟨l⟩ := sl
      simp only at hs
      subst hs
      exact ⟨_, _, _, _, bm, _, _, _, _, _, k0, k1, k2, k3, k5, ho, h3⟩
    · cases q
  · cases q
theorem low_of {P : Program} {K : Fg} {x f1 a1 msg file : Str} {st : Stmt} {j : Nat} {p0 p1 p2 p3 p4 p5 q0 q1 q2 q3 : Pos} (o : lowO K x = lowV st) (b : lowB file x f1 K = true) (hfile : (P.main.file : Str) = file) (top : (P.main.scope.names.lookup ("super" : Str)).isSome = false)
    (hb : defBody st = [.Expr (.Call (.Attribute (.Call (.Name "super" p0) [] [] p1) "__init__" p2) [.Constant (.str msg) j p3] [] p4) p5, .Assign [.Attribute (.Name "self" q0) f1 q1] (.Name a1 q2) q3]) (hp : (p2.endLine == p4.line) = true)
    (kind : (defScope st).kind = .function) (co : (defScope st).isCoroutine = false) (gen : (defScope st).isGenerator = false) (noc : ∀ x ∈ (defScope st).names, x.2 ≠ .cell) (ks : (defScope st).names.lookup ("super" : Str) = some .globalImplicit)
    (kc : (defScope st).names.lookup ("__class__" : Str) = some .free) (kself : (defScope st).names.lookup ("self" : Str) = some .local) (ka : (defScope st).names.lookup a1 = some .local) (ar : ∃ ar, ((defArgs st).posonlyargs ++ (defArgs st).args).head? = some ar ∧ ar.arg = "self")
    (hsa : a1 ≠ "self") (hd : (a1 == ("__debug__" : Str)) = false)
    (bind : ∀ fd : FuncData, fd.params = defArgs st → fd.scope = defScope st → fd.defaults = .none → fd.kwdefaults = .none → ∀ (s : Shared) (a b : Value), BindsTo s fd ⟨[a, b], []⟩ [("self", a), (a1, b)]) :
    ∃ fI fd a1', Xi.Low1 P K (He.ga K x) fI fd f1 a1' := by
  unfold lowB at b
  simp only [Bool.and_eq_true] at b
  obtain ⟨b1, b2, b3, b4, b5, b6, b7, b8, b9, b10, b11, b12, b13, b14, b15⟩ := b
  unfold lowO at o
  unfold iniB at b2
  cases q : K.lookup (iniA K x) with
  | none => rw [q] at o; cases o
  | some ob =>
    obtain ⟨oc, od, dt, osl⟩ := ob
    rw [q] at o b2
    cases dt with
    | func fd =>
      have o2 : (some (fd.params, fd.body, fd.scope, fd.globals, fd.builtins) : LowT) = some (defArgs st, .stmts (defBody st), defScope st, mainGlobals, builtinsNs) := o
      simp only [Option.some.injEq, Prod.mk.injEq] at o2
      obtain ⟨h1, h2, h3, h4, h5⟩ := o2
      simp only [Bool.and_eq_true] at b2
      obtain ⟨c1, c2, c3, c4, c5⟩ := b2
      have hclo : ∃ cc cl cld csl, fd.closure = [(("__class__" : Str), cc)] ∧ K.lookup cc = some ⟨cl, cld, .cell (some (.ref (He.ga K x))), csl⟩ := by
        split at c2
        · rename_i n cc hcl
          obtain ⟨e1, e2⟩ := Bool.and_eq_true_iff.mp c2
          have e1 := of_decide_eq_true e1
          subst e1
          split at e2
          · rename_i oc' od' C' sl' hcc
            have e2 := of_decide_eq_true e2
            subst e2
            exact ⟨cc, _, _, _, hcl, hcc⟩
          · cases e2
        · cases c2
      have hfl : ∃ cda ccl cdd vs ccs file tf, fd.code = .ref cda ∧ K.lookup cda = some ⟨ccl, cdd, .fields vs, ccs⟩ ∧ vs[2]? = some (.str file tf) ∧ ((P.main.file : Str) == file) = true := by
        split at c3
        · rename_i cda hc
          split at c3
          · rename_i a1' a2' vs a3' hk
            split at c3
            · rename_i fl tf hv
              exact ⟨cda, _, _, vs, _, fl, tf, hc, hk, hv, by rw [hfile]; exact c3⟩
            · cases c3
          · cases c3
        · cases c3
      have d1 : fd.defaults = .none := by
        split at c4
        · assumption
        · cases c4
      have d2 : fd.kwdefaults = .none := by
        split at c5
        · assumption
        · cases c5
      refine ⟨iniA K x, fd, a1, ⟨⟨clsB_ok b1, ⟨_, _, _, q⟩, c1, hclo, h4, h5, hfl, top, He.eqO_ok b3, He.eqO_ok b4, of_decide_eq_true b5, He.eqO_ok b6, of_decide_eq_true b7, b8, ?_, ?_, ?_, ?_, ?_, ?_, ?_, ?_⟩, ?_, ?_, hsa, hd, He.eqO_ok b9, He.eqO_ok b10, fun s a b => bind fd h1 h3 d1 d2 s a b, He.eqO_ok b11, of_decide_eq_true b12, of_decide_eq_true b13, of_decide_eq_true b14, b15⟩⟩
      · rw [h3]; exact kind
      · rw [h3]; exact co
      · rw [h3]; exact gen
      · rw [h3]; exact noc
      · rw [h3]; exact ks
      · rw [h3]; exact kc
      · rw [h3]; exact kself
      · rw [h1]; exact ar
      · exact ⟨msg, j, p0, p1, p2, p3, p4, p5, q0, q1, q2, q3, by rw [h2, hb], hp⟩
      · rw [h3]; exact ka
    | _ => cases o
/-! the Hook -/
abbrev AlX : Type := He.AlD × Bool × List LowT
def obsX (fa : List He.Fa) (fn : List He.DefD) (bs : List (Fg → Bool)) (ls : List Str) (K : Fg) : AlX := (He.obsD fa fn K, bs.all fun b => b K, ls.map (lowO K))
def valX (fn : List He.DefD) (vs : List LowT) : AlX := (He.valD fn, true, vs)
def SaysX (fa : List He.Fa) (fn : List He.DefD) (bs : List (Fg → Bool)) (ls : List Str) (vs : List LowT) (K : Fg) : Prop := obsX fa fn bs ls K = valX fn vs
def asX (n : Nat) (g : Addr → Option Obj) : List Addr := cStatics :: He.asD g n
def obsXG (n : Nat) (fa : List He.Fa) (fn : List He.DefD) (bs : List (Fg → Bool)) (ls : List Str) (g : Addr → Option Obj) : AlX := obsX fa fn bs ls (He.frG g (asX n g))
def hookX (n : Nat) (fa : List He.Fa) (fn : List He.DefD) (bs : List (Fg → Bool)) (ls : List Str) (vs : List LowT) : PySem.W.Hook where
  α := AlX
  obs := fun s => obsXG n fa fn bs ls s.heap.get?
  val := fun _ => valX fn vs
  says := fun _ h => ∃ K : Fg, K.In h ∧ SaysX fa fn bs ls vs K
  of := fun _ _ e => ⟨_, He.frG_in, e⟩
  keeps := fun _ _ _ ⟨K, hK, c⟩ k => ⟨K, PySem.W.Frag.In.keeps hK k, c⟩
theorem obsXG_eq {n : Nat} {fa : List He.Fa} {fn : List He.DefD} {bs : List (Fg → Bool)} {ls : List Str} {vs : List LowT} {g : Addr → Option Obj} {s : Shared} (h : ∀ a, g a = s.heap.get? a) : obsXG n fa fn bs ls g = (hookX n fa fn bs ls vs).obs s := by
  have e : g = s.heap.get? := funext h
  rw [e] <;> rfl
section
variable {fa : List He.Fa} {fn : List He.DefD} {bs : List (Fg → Bool)} {ls : List Str} {vs : List LowT} {K : Fg}
theorem SaysX.d (c : SaysX fa fn bs ls vs K) : He.SaysD fa fn K := congrArg (fun z : AlX => z.1) c
theorem SaysX.b (c : SaysX fa fn bs ls vs K) (i : Nat) {b : Fg → Bool} (h : bs[i]? = some b := by rfl) : b K = true := List.all_eq_true.mp (show (bs.all fun b => b K) = true from congrArg (fun z : AlX => z.2.1) c) b (List.mem_of_getElem? h)
theorem SaysX.l (c : SaysX fa fn bs ls vs K) (i : Nat) {x : Str} {v : LowT} (h : ls[i]? = some x := by rfl) (hv : vs[i]? = some v := by rfl) : lowO K x = v := by
  have e : ls.map (lowO K) = vs := congrArg (fun z : AlX => z.2.2) c
  have e2 : (ls.map (lowO K))[i]? = vs[i]? := by rw [e]
  rw [List.getElem?_map, h, hv] at e2
  exact Option.some.inj e2
end
end Hk

/-! T2 -/
set_option Elab.async false
set_option linter.all false
set_option maxRecDepth 100000
set_option maxHeartbeats 4000000
namespace G
open PySem PySem.Spec L2 Dl
abbrev tg_fine : Tag := tg "fine" (by decide +kernel)
abbrev tg_holds : Tag := tg "holds" (by decide +kernel)
abbrev tg_let : Tag := tg "let" (by decide +kernel)
abbrev tg_number : Tag := tg "number" (by decide +kernel)
abbrev tg_other : Tag := tg "other" (by decide +kernel)
abbrev tg_place : Tag := tg "place" (by decide +kernel)
abbrev tg_plan : Tag := tg "plan" (by decide +kernel)
abbrev tg_refused : Tag := tg "refused" (by decide +kernel)
abbrev tg_size : Tag := tg "size" (by decide +kernel)
abbrev tg_table : Tag := tg "table" (by decide +kernel)
abbrev tg_toll : Tag := tg "toll" (by decide +kernel)
abbrev tg_tolls : Tag := tg "tolls" (by decide +kernel)
def top (i : Nat) : Stmt := PySem.Challenge.pw_ringfolk_k27_plans_and_bills.main.body.getD i (.Pass ⟨0, 0, 0, 0⟩)
abbrev s_check_places : Stmt := top 10
abbrev s_lies_in : Stmt := top 12
abbrev s_is_end : Stmt := top 13
abbrev s_ends_outside : Stmt := top 14
abbrev s_is_toll_row : Stmt := top 17
abbrev s_check_tolls : Stmt := top 18
abbrev s_check_road : Stmt := top 19
abbrev s_toll_of : Stmt := top 20
abbrev s_with_toll : Stmt := top 21
abbrev s_is_part : Stmt := top 23
abbrev s_charged : Stmt := top 24
abbrev s_bill_holds : Stmt := top 25
abbrev s_end_of : Stmt := top 27
abbrev s_plan_ends : Stmt := top 28
abbrev s_shut_in : Stmt := top 29
abbrev s_plan_price : Stmt := top 30
abbrev s__law_start : Stmt := top 32
abbrev s__law_draw : Stmt := top 33
abbrev s__law_size : Stmt := top 34
abbrev s__law_set : Stmt := top 35
abbrev s__law_order : Stmt := top 36
abbrev s__law_whole : Stmt := top 37
abbrev s__law_same_row : Stmt := top 38
abbrev s__law_same_rows : Stmt := top 39
abbrev s__law_copy : Stmt := top 40
abbrev s__law_tolls : Stmt := top 41
abbrev s__law_bent_tolls : Stmt := top 42
abbrev s__law_wrong_row : Stmt := top 43
abbrev s__law_table_told : Stmt := top 44
abbrev s__law_tables_right : Stmt := top 45
abbrev s__law_road_due : Stmt := top 46
abbrev s__law_road_told : Stmt := top 47
abbrev s__law_changed_told : Stmt := top 48
abbrev s__law_number : Stmt := top 49
abbrev s__law_roads_right : Stmt := top 50
abbrev s__law_end : Stmt := top 51
abbrev s__law_plan : Stmt := top 52
abbrev s__law_bent_plan : Stmt := top 53
abbrev s__law_wrong_in_plan : Stmt := top 54
abbrev s__law_plan_told : Stmt := top 55
abbrev s__law_plans_right : Stmt := top 56
abbrev s__law_borne : Stmt := top 57
abbrev s__law_parts : Stmt := top 58
abbrev s__law_bent_parts : Stmt := top 59
abbrev s__law_holds : Stmt := top 60
abbrev s__law_bill_told : Stmt := top 61
abbrev s__law_bills_right : Stmt := top 62
abbrev s_law : Stmt := top 63
structure Tx (P : Program) (K : Fg) (mg : Str → Option Value) : Prop where
  b_abs : mg "abs" = none
  b_all : mg "all" = none
  b_bool : mg "bool" = none
  b_enumerate : mg "enumerate" = none
  b_int : mg "int" = none
  b_isinstance : mg "isinstance" = none
  b_len : mg "len" = none
  b_list : mg "list" = none
  b_min : mg "min" = none
  b_range : mg "range" = none
  b_set : mg "set" = none
  b_sorted : mg "sorted" = none
  b_sum : mg "sum" = none
  b_tuple : mg "tuple" = none
  c_HOME : ∃ t, mg "HOME" = some (.int (-1) t)
  c_MOST : ∃ t, mg "MOST" = some (.int (16) t)
  c_MOST_TOLL : ∃ t, mg "MOST_TOLL" = some (.int (1000000) t)
  f_check_places : ∃ fd, FnP K "check_places" s_check_places (He.ga K "check_places") fd
  m_check_places : mg "check_places" = some (.ref (He.ga K "check_places"))
  f_lies_in : ∃ fd, FnP K "lies_in" s_lies_in (He.ga K "lies_in") fd
  m_lies_in : mg "lies_in" = some (.ref (He.ga K "lies_in"))
  f_is_end : ∃ fd, FnP K "is_end" s_is_end (He.ga K "is_end") fd
  m_is_end : mg "is_end" = some (.ref (He.ga K "is_end"))
  f_ends_outside : ∃ fd, FnP K "ends_outside" s_ends_outside (He.ga K "ends_outside") fd
  m_ends_outside : mg "ends_outside" = some (.ref (He.ga K "ends_outside"))
  f_is_toll_row : ∃ fd, FnP K "is_toll_row" s_is_toll_row (He.ga K "is_toll_row") fd
  m_is_toll_row : mg "is_toll_row" = some (.ref (He.ga K "is_toll_row"))
  f_check_tolls : ∃ fd, FnP K "check_tolls" s_check_tolls (He.ga K "check_tolls") fd
  m_check_tolls : mg "check_tolls" = some (.ref (He.ga K "check_tolls"))
  f_check_road : ∃ fd, FnP K "check_road" s_check_road (He.ga K "check_road") fd
  m_check_road : mg "check_road" = some (.ref (He.ga K "check_road"))
  f_toll_of : ∃ fd, FnP K "toll_of" s_toll_of (He.ga K "toll_of") fd
  m_toll_of : mg "toll_of" = some (.ref (He.ga K "toll_of"))
  f_with_toll : ∃ fd, FnP K "with_toll" s_with_toll (He.ga K "with_toll") fd
  m_with_toll : mg "with_toll" = some (.ref (He.ga K "with_toll"))
  f_is_part : ∃ fd, FnP K "is_part" s_is_part (He.ga K "is_part") fd
  m_is_part : mg "is_part" = some (.ref (He.ga K "is_part"))
  f_charged : ∃ fd, FnP K "charged" s_charged (He.ga K "charged") fd
  m_charged : mg "charged" = some (.ref (He.ga K "charged"))
  f_bill_holds : ∃ fd, FnP K "bill_holds" s_bill_holds (He.ga K "bill_holds") fd
  m_bill_holds : mg "bill_holds" = some (.ref (He.ga K "bill_holds"))
  f_end_of : ∃ fd, FnP K "end_of" s_end_of (He.ga K "end_of") fd
  m_end_of : mg "end_of" = some (.ref (He.ga K "end_of"))
  f_plan_ends : ∃ fd, FnP K "plan_ends" s_plan_ends (He.ga K "plan_ends") fd
  m_plan_ends : mg "plan_ends" = some (.ref (He.ga K "plan_ends"))
  f_shut_in : ∃ fd, FnP K "shut_in" s_shut_in (He.ga K "shut_in") fd
  m_shut_in : mg "shut_in" = some (.ref (He.ga K "shut_in"))
  f_plan_price : ∃ fd, FnP K "plan_price" s_plan_price (He.ga K "plan_price") fd
  m_plan_price : mg "plan_price" = some (.ref (He.ga K "plan_price"))
  f__law_start : ∃ fd, FnP K "_law_start" s__law_start (He.ga K "_law_start") fd
  m__law_start : mg "_law_start" = some (.ref (He.ga K "_law_start"))
  f__law_draw : ∃ fd, FnP K "_law_draw" s__law_draw (He.ga K "_law_draw") fd
  m__law_draw : mg "_law_draw" = some (.ref (He.ga K "_law_draw"))
  f__law_size : ∃ fd, FnP K "_law_size" s__law_size (He.ga K "_law_size") fd
  m__law_size : mg "_law_size" = some (.ref (He.ga K "_law_size"))
  f__law_set : ∃ fd, FnP K "_law_set" s__law_set (He.ga K "_law_set") fd
  m__law_set : mg "_law_set" = some (.ref (He.ga K "_law_set"))
  f__law_order : ∃ fd, FnP K "_law_order" s__law_order (He.ga K "_law_order") fd
  m__law_order : mg "_law_order" = some (.ref (He.ga K "_law_order"))
  f__law_whole : ∃ fd, FnP K "_law_whole" s__law_whole (He.ga K "_law_whole") fd
  m__law_whole : mg "_law_whole" = some (.ref (He.ga K "_law_whole"))
  f__law_same_row : ∃ fd, FnP K "_law_same_row" s__law_same_row (He.ga K "_law_same_row") fd
  m__law_same_row : mg "_law_same_row" = some (.ref (He.ga K "_law_same_row"))
  f__law_same_rows : ∃ fd, FnP K "_law_same_rows" s__law_same_rows (He.ga K "_law_same_rows") fd
  m__law_same_rows : mg "_law_same_rows" = some (.ref (He.ga K "_law_same_rows"))
  f__law_copy : ∃ fd, FnP K "_law_copy" s__law_copy (He.ga K "_law_copy") fd
  m__law_copy : mg "_law_copy" = some (.ref (He.ga K "_law_copy"))
  f__law_tolls : ∃ fd, FnP K "_law_tolls" s__law_tolls (He.ga K "_law_tolls") fd
  m__law_tolls : mg "_law_tolls" = some (.ref (He.ga K "_law_tolls"))
  f__law_bent_tolls : ∃ fd, FnP K "_law_bent_tolls" s__law_bent_tolls (He.ga K "_law_bent_tolls") fd
  m__law_bent_tolls : mg "_law_bent_tolls" = some (.ref (He.ga K "_law_bent_tolls"))
  f__law_wrong_row : ∃ fd, FnP K "_law_wrong_row" s__law_wrong_row (He.ga K "_law_wrong_row") fd
  m__law_wrong_row : mg "_law_wrong_row" = some (.ref (He.ga K "_law_wrong_row"))
  f__law_table_told : ∃ fd, FnP K "_law_table_told" s__law_table_told (He.ga K "_law_table_told") fd
  m__law_table_told : mg "_law_table_told" = some (.ref (He.ga K "_law_table_told"))
  f__law_tables_right : ∃ fd, FnP K "_law_tables_right" s__law_tables_right (He.ga K "_law_tables_right") fd
  m__law_tables_right : mg "_law_tables_right" = some (.ref (He.ga K "_law_tables_right"))
  f__law_road_due : ∃ fd, FnP K "_law_road_due" s__law_road_due (He.ga K "_law_road_due") fd
  m__law_road_due : mg "_law_road_due" = some (.ref (He.ga K "_law_road_due"))
  f__law_road_told : ∃ fd, FnP K "_law_road_told" s__law_road_told (He.ga K "_law_road_told") fd
  m__law_road_told : mg "_law_road_told" = some (.ref (He.ga K "_law_road_told"))
  f__law_changed_told : ∃ fd, FnP K "_law_changed_told" s__law_changed_told (He.ga K "_law_changed_told") fd
  m__law_changed_told : mg "_law_changed_told" = some (.ref (He.ga K "_law_changed_told"))
  f__law_number : ∃ fd, FnP K "_law_number" s__law_number (He.ga K "_law_number") fd
  m__law_number : mg "_law_number" = some (.ref (He.ga K "_law_number"))
  f__law_roads_right : ∃ fd, FnP K "_law_roads_right" s__law_roads_right (He.ga K "_law_roads_right") fd
  m__law_roads_right : mg "_law_roads_right" = some (.ref (He.ga K "_law_roads_right"))
  f__law_end : ∃ fd, FnP K "_law_end" s__law_end (He.ga K "_law_end") fd
  m__law_end : mg "_law_end" = some (.ref (He.ga K "_law_end"))
  f__law_plan : ∃ fd, FnP K "_law_plan" s__law_plan (He.ga K "_law_plan") fd
  m__law_plan : mg "_law_plan" = some (.ref (He.ga K "_law_plan"))
  f__law_bent_plan : ∃ fd, FnP K "_law_bent_plan" s__law_bent_plan (He.ga K "_law_bent_plan") fd
  m__law_bent_plan : mg "_law_bent_plan" = some (.ref (He.ga K "_law_bent_plan"))
  f__law_wrong_in_plan : ∃ fd, FnP K "_law_wrong_in_plan" s__law_wrong_in_plan (He.ga K "_law_wrong_in_plan") fd
  m__law_wrong_in_plan : mg "_law_wrong_in_plan" = some (.ref (He.ga K "_law_wrong_in_plan"))
  f__law_plan_told : ∃ fd, FnP K "_law_plan_told" s__law_plan_told (He.ga K "_law_plan_told") fd
  m__law_plan_told : mg "_law_plan_told" = some (.ref (He.ga K "_law_plan_told"))
  f__law_plans_right : ∃ fd, FnP K "_law_plans_right" s__law_plans_right (He.ga K "_law_plans_right") fd
  m__law_plans_right : mg "_law_plans_right" = some (.ref (He.ga K "_law_plans_right"))
  f__law_borne : ∃ fd, FnP K "_law_borne" s__law_borne (He.ga K "_law_borne") fd
  m__law_borne : mg "_law_borne" = some (.ref (He.ga K "_law_borne"))
  f__law_parts : ∃ fd, FnP K "_law_parts" s__law_parts (He.ga K "_law_parts") fd
  m__law_parts : mg "_law_parts" = some (.ref (He.ga K "_law_parts"))
  f__law_bent_parts : ∃ fd, FnP K "_law_bent_parts" s__law_bent_parts (He.ga K "_law_bent_parts") fd
  m__law_bent_parts : mg "_law_bent_parts" = some (.ref (He.ga K "_law_bent_parts"))
  f__law_holds : ∃ fd, FnP K "_law_holds" s__law_holds (He.ga K "_law_holds") fd
  m__law_holds : mg "_law_holds" = some (.ref (He.ga K "_law_holds"))
  f__law_bill_told : ∃ fd, FnP K "_law_bill_told" s__law_bill_told (He.ga K "_law_bill_told") fd
  m__law_bill_told : mg "_law_bill_told" = some (.ref (He.ga K "_law_bill_told"))
  f__law_bills_right : ∃ fd, FnP K "_law_bills_right" s__law_bills_right (He.ga K "_law_bills_right") fd
  m__law_bills_right : mg "_law_bills_right" = some (.ref (He.ga K "_law_bills_right"))
  f_law : ∃ fd, FnP K "law" s_law (He.ga K "law") fd
  m_law : mg "law" = some (.ref (He.ga K "law"))
  g_TiedError : mg "TiedError" = some (.ref (He.ga K "TiedError"))
  g_BadPlace : mg "BadPlace" = some (.ref (He.ga K "BadPlace"))
  xf_BadPlace : XfC K (He.ga K "BadPlace")
  no_BadPlace : PySem.W.findIn K (.ref (He.ga K "BadPlace")) "place" = some none
  x_BadPlace_BadNumber : PySem.W.exmOne K (.ref (He.ga K "BadPlace")) (.ref (He.ga K "BadNumber")) = some false
  x_BadPlace_BadPlace : PySem.W.exmOne K (.ref (He.ga K "BadPlace")) (.ref (He.ga K "BadPlace")) = some true
  x_BadPlace_BadPlan : PySem.W.exmOne K (.ref (He.ga K "BadPlace")) (.ref (He.ga K "BadPlan")) = some false
  x_BadPlace_BadSize : PySem.W.exmOne K (.ref (He.ga K "BadPlace")) (.ref (He.ga K "BadSize")) = some false
  x_BadPlace_BadTolls : PySem.W.exmOne K (.ref (He.ga K "BadPlace")) (.ref (He.ga K "BadTolls")) = some false
  x_BadPlace_TiedError : PySem.W.exmOne K (.ref (He.ga K "BadPlace")) (.ref (He.ga K "TiedError")) = some true
  BadPlace : Kl P K mg "BadPlace" "place"
  g_BadSize : mg "BadSize" = some (.ref (He.ga K "BadSize"))
  xf_BadSize : XfC K (He.ga K "BadSize")
  no_BadSize : PySem.W.findIn K (.ref (He.ga K "BadSize")) "size" = some none
  x_BadSize_BadNumber : PySem.W.exmOne K (.ref (He.ga K "BadSize")) (.ref (He.ga K "BadNumber")) = some false
  x_BadSize_BadPlace : PySem.W.exmOne K (.ref (He.ga K "BadSize")) (.ref (He.ga K "BadPlace")) = some false
  x_BadSize_BadPlan : PySem.W.exmOne K (.ref (He.ga K "BadSize")) (.ref (He.ga K "BadPlan")) = some false
  x_BadSize_BadSize : PySem.W.exmOne K (.ref (He.ga K "BadSize")) (.ref (He.ga K "BadSize")) = some true
  x_BadSize_BadTolls : PySem.W.exmOne K (.ref (He.ga K "BadSize")) (.ref (He.ga K "BadTolls")) = some false
  x_BadSize_TiedError : PySem.W.exmOne K (.ref (He.ga K "BadSize")) (.ref (He.ga K "TiedError")) = some true
  BadSize : Kl P K mg "BadSize" "size"
  g_BadNumber : mg "BadNumber" = some (.ref (He.ga K "BadNumber"))
  xf_BadNumber : XfC K (He.ga K "BadNumber")
  no_BadNumber : PySem.W.findIn K (.ref (He.ga K "BadNumber")) "number" = some none
  x_BadNumber_BadNumber : PySem.W.exmOne K (.ref (He.ga K "BadNumber")) (.ref (He.ga K "BadNumber")) = some true
  x_BadNumber_BadPlace : PySem.W.exmOne K (.ref (He.ga K "BadNumber")) (.ref (He.ga K "BadPlace")) = some false
  x_BadNumber_BadPlan : PySem.W.exmOne K (.ref (He.ga K "BadNumber")) (.ref (He.ga K "BadPlan")) = some false
  x_BadNumber_BadSize : PySem.W.exmOne K (.ref (He.ga K "BadNumber")) (.ref (He.ga K "BadSize")) = some false
  x_BadNumber_BadTolls : PySem.W.exmOne K (.ref (He.ga K "BadNumber")) (.ref (He.ga K "BadTolls")) = some false
  x_BadNumber_TiedError : PySem.W.exmOne K (.ref (He.ga K "BadNumber")) (.ref (He.ga K "TiedError")) = some true
  BadNumber : Kl P K mg "BadNumber" "number"
  g_BadTolls : mg "BadTolls" = some (.ref (He.ga K "BadTolls"))
  xf_BadTolls : XfC K (He.ga K "BadTolls")
  no_BadTolls : PySem.W.findIn K (.ref (He.ga K "BadTolls")) "place" = some none
  x_BadTolls_BadNumber : PySem.W.exmOne K (.ref (He.ga K "BadTolls")) (.ref (He.ga K "BadNumber")) = some false
  x_BadTolls_BadPlace : PySem.W.exmOne K (.ref (He.ga K "BadTolls")) (.ref (He.ga K "BadPlace")) = some false
  x_BadTolls_BadPlan : PySem.W.exmOne K (.ref (He.ga K "BadTolls")) (.ref (He.ga K "BadPlan")) = some false
  x_BadTolls_BadSize : PySem.W.exmOne K (.ref (He.ga K "BadTolls")) (.ref (He.ga K "BadSize")) = some false
  x_BadTolls_BadTolls : PySem.W.exmOne K (.ref (He.ga K "BadTolls")) (.ref (He.ga K "BadTolls")) = some true
  x_BadTolls_TiedError : PySem.W.exmOne K (.ref (He.ga K "BadTolls")) (.ref (He.ga K "TiedError")) = some true
  BadTolls : Kl P K mg "BadTolls" "place"
  g_BadPlan : mg "BadPlan" = some (.ref (He.ga K "BadPlan"))
  xf_BadPlan : XfC K (He.ga K "BadPlan")
  no_BadPlan : PySem.W.findIn K (.ref (He.ga K "BadPlan")) "place" = some none
  x_BadPlan_BadNumber : PySem.W.exmOne K (.ref (He.ga K "BadPlan")) (.ref (He.ga K "BadNumber")) = some false
  x_BadPlan_BadPlace : PySem.W.exmOne K (.ref (He.ga K "BadPlan")) (.ref (He.ga K "BadPlace")) = some false
  x_BadPlan_BadPlan : PySem.W.exmOne K (.ref (He.ga K "BadPlan")) (.ref (He.ga K "BadPlan")) = some true
  x_BadPlan_BadSize : PySem.W.exmOne K (.ref (He.ga K "BadPlan")) (.ref (He.ga K "BadSize")) = some false
  x_BadPlan_BadTolls : PySem.W.exmOne K (.ref (He.ga K "BadPlan")) (.ref (He.ga K "BadTolls")) = some false
  x_BadPlan_TiedError : PySem.W.exmOne K (.ref (He.ga K "BadPlan")) (.ref (He.ga K "TiedError")) = some true
  BadPlan : Kl P K mg "BadPlan" "place"
  ec_BadTolls : ExcC K (He.ga K "BadTolls")
  k_BadTolls_TiedError : PySem.W.kitOne K (.ref (He.ga K "BadTolls")) (.ref (He.ga K "TiedError")) = some true
  kt_BadTolls : PySem.W.kitAny K (.ref (He.ga K "BadTolls")) [.ref (He.ga K "BadPlace"), .ref (He.ga K "BadPlan"), .ref (He.ga K "BadNumber"), .ref (He.ga K "BadSize")] = some false
def m_check_places : Int × (List Int) → Option (Except Xc (List Int)) := fun (size, places) =>
  cond (!(decide ((1 : Int) ≤ size) && decide (size ≤ (16 : Int)))) (some (.error (.one "BadSize" "size" size))) ((rngO (0 : Int) (places.length : Int)).bind fun xs3 =>
  finK (fun (_ : Unit) => (some (.ok (isort places)))) (fun (tt : Except Xc (List Int)) => some tt) (forL (fun (index6 : Int) (_ : Unit) => ((atI places index6).bind fun t7 =>
  (cond (!(decide ((0 : Int) ≤ t7) && decide (t7 < size))) (some true) ((atI places index6).bind fun t9 => some (decide (t9 ∈ (cut places none (some index6)))))).bind fun b11 =>
  cond b11 ((atI places index6).bind fun t14 =>
  some (.rt (.error (.one "BadPlace" "place" t14)))) (some (.nx ())) : Option (Ctl Unit (Except Xc (List Int))))) xs3 ()))
def p_check_places (K : Fg) : Sp := PrX K (He.ga K) (fun (g : Int × (List Int)) => [rInt.s K g.1, (rLst rInt).s K g.2]) m_check_places (rLst rInt)
abbrev N_check_places : List Str := ["size", "places", "index"]
theorem sc_check_places : FnScope N_check_places ["size", "places"] (defScope s_check_places) := ⟨rfl, rfl, rfl, by decide +kernel, rfl, by decide +kernel, by decide +kernel⟩
theorem ok_check_places {P : Program} {w : World} {K : Fg} {mg : Str → Option Value} {base : Heap} (T : Tx P K mg) {fd : FuncData} (F : FnP K "check_places" s_check_places (He.ga K "check_places") fd) : FnOk P w K mg base (L2.CX P w) 2 (He.ga K "check_places") fd ["size", "places"] (p_check_places K) := by
  obtain ⟨fI_BadPlace, fd_BadPlace, a1_BadPlace, low_BadPlace⟩ := T.BadPlace.lo
  obtain ⟨fI_BadSize, fd_BadSize, a1_BadSize, low_BadSize⟩ := T.BadSize.lo
  obtain ⟨t_MOST, c_MOST⟩ := T.c_MOST
  have sc := sc_check_places
  refine F.ok sc (fun vs H Q E h => ?_) (fun cdv A outer s H vs Q E hr h => ?_)
  · obtain ⟨g, z, B, ss, _⟩ := h
    exact (Paired.length ss).trans rfl
  · obtain ⟨⟨size, places⟩, z, B, ss, ex, hm, k⟩ := h
    obtain ⟨v0, v1, rfl, z0, z1⟩ := pn2 ss
    have hr1 : Room 1 _ := hr.mono (by decide)
    have tk := takes_of (X := cxOf (L2.CX P w) P w K mg base N_check_places "check_places" (defScope s_check_places) (He.ga K "check_places") cdv A outer s H E) rfl rfl rfl rfl
    refine ⟨_, (pss_cons (ps_if (pt_not (pt_chain op_le op_le pe_int (pv 0) (pe_glob (v := .int (16)) (by rfl) c_MOST ⟨_, rfl⟩))) (pss_one (ps_raise rfl tk (Xi.pmk_low low_BadSize hr1 (by rfl) T.BadSize.gl (pa_cons (pv 0) pa_nil)))) pss_nil) (pss_cons (ps_for (passes_of rfl) rfl (pi_range1 (by rfl) T.b_range (pa_cons (pe_callB (clen (K := K) rfl) (by rfl) T.b_len (by decide +kernel) (pa_cons (pv 1) pa_nil)) pa_nil)) (pg_name (i := 2) sc.nd rfl (Or.inl rfl)) (pss_one (ps_if (PW.pt (pw_or (pt_not (pt_chain op_le op_lt pe_int (pe_ix (ixl (K := K) rfl) (pv 1) (pv 2) (fun _ _ => rfl)) (pv 0))) (pw_or1 (pt_cmpR (opin (K := K) rfl) (pe_ix (ixl (K := K) rfl) (pv 1) (pv 2) (fun _ _ => rfl)) (pe_slice (sll (K := K) rfl) (pv 1) po_none (po_some (pv 2))) (by rfl))))) (pss_one (ps_raise rfl tk (Xi.pmk_low low_BadPlace hr1 (by rfl) T.BadPlace.gl (pa_cons (pe_ix (ixl (K := K) rfl) (pv 1) (pv 2) (fun _ _ => rfl)) pa_nil)))) pss_nil))) (pss_one (ps_ret (pe_callB (csrt (K := K) rfl) (by rfl) T.b_sorted (by decide +kernel) (pa_cons (pv 1) pa_nil)))))), ?_⟩
    have w := Wd.start (K := K) ex
    unfold m_check_places at hm
    try dsimp only
    refine s_if w (et_not (et_test (ev_ch_le_le ev_int (ev_var (S := rInt.s K size) rfl z0) ev_int))) (fun hb B1 H1 x1 w1 => ?_) (fun hb B1 H1 x1 w1 => ?_)
    · have hm := it hb hm
      refine s_raise w1 (ea_cons (ev_var (S := rInt.s K size) rfl (Sv.mono _ x1 z0)) ea_nil) (fun cls d B2 H2 x2 w2 hx => ?_)
      cases hm
      exact k cls d _ _ w2.st w2.ex hx
    · have hm := ie hb hm
      obtain ⟨xs3, e4, hm⟩ := ob hm
      refine s_for (R := rInt) (oo := (fun (rr : Unit) => [])) (ρ0 := ()) (fun (index6 : Int) (_ : Unit) => ((atI places index6).bind fun t7 =>
(cond (!(decide ((0 : Int) ≤ t7) && decide (t7 < size))) (some true) ((atI places index6).bind fun t9 => some (decide (t9 ∈ (cut places none (some index6)))))).bind fun b11 =>
cond b11 ((atI places index6).bind fun t14 =>
some (.rt (.error (.one "BadPlace" "place" t14)))) (some (.nx ())) : Option (Ctl Unit (Except Xc (List Int))))) (fun (_ : Unit) σ' B' => ∃ o_2 : Option V, σ' = [some v0, some v1, o_2]) (fun zz => finK _ _ zz = some _) w1 (ei_r1 (ev_len (ev_var (S := (rLst rInt).s K places) rfl (Sv.mono _ x1 z1)) src_p) e4) (fun rr σ' B1 B2 e ⟨o_2, hσ⟩ => ⟨o_2, hσ⟩) (fun B2 e => ⟨_, rfl⟩) hm ?_ ?_
      · rintro index6 rst rr vx5 σ' Bt5 Ht5 xt5 wt5 ⟨o_2t5, rfl⟩ hx5 hf N hN dn
        dsimp only [gName]
        obtain ⟨ctl, hfx, hbk5, hrt5⟩ := forL_step hf
        have hm := hfx
        obtain ⟨t7, e8, hm⟩ := ob hm
        obtain ⟨b11, e12, hm⟩ := ob hm
        try dsimp only
        refine s_if wt5 (et_orO (b := b11) (et_not (et_test (ev_ch_le_lt ev_int (ev_ix (ev_var (S := (rLst rInt).s K places) rfl (Sv.mono _ xt5 (Sv.mono _ x1 z1))) (ev_var (S := rInt.s K index6) rfl hx5) src_p e8) (ev_var (S := rInt.s K size) rfl (Sv.mono _ xt5 (Sv.mono _ x1 z0)))))) (fun hc => by have e12 := ie hc e12; obtain ⟨t9, e10, e12⟩ := ob e12; have hq_ := Option.some.inj e12; subst hq_; exact (et_test (ev_in (ev_ix (ev_var (S := (rLst rInt).s K places) rfl (Sv.mono _ xt5 (Sv.mono _ x1 z1))) (ev_var (S := rInt.s K index6) rfl hx5) src_p e10) (ev_cut (ev_var (S := (rLst rInt).s K places) rfl (Sv.mono _ xt5 (Sv.mono _ x1 z1))) eo_none (eo_some (ev_var (S := rInt.s K index6) rfl hx5)) src_p) src_n))) (fun hc => by have e12 := it hc e12; cases e12; exact ⟨rfl, rfl⟩)) (fun hb B13 H13 x13 w13 => ?_) (fun hb B13 H13 x13 w13 => ?_)
        · have hm := it hb hm
          obtain ⟨t14, e15, hm⟩ := ob hm
          refine s_raise w13 (ea_cons (ev_ix (ev_var (S := (rLst rInt).s K places) rfl (Sv.mono _ x13 (Sv.mono _ xt5 (Sv.mono _ x1 z1)))) (ev_var (S := rInt.s K index6) rfl (Sv.mono _ x13 hx5)) src_p e15) ea_nil) (fun cls d B16 H16 x16 w16 hx => ?_)
          cases hm
          replace hm := hrt5 _ rfl
          cases hm
          exact k cls d _ _ w16.st w16.ex hx
        · have hm := ie hb hm
          have hq_ := Option.some.inj hm
          subst hq_
          exact hN () _ _ _ hfx x13 w13 ⟨_, rfl⟩
      · rintro rr σ' B17 H17 x17 w17 ⟨o_2k18, rfl⟩ hm
        try dsimp only
        replace hm := finK_nx hm
        refine s_ret w17 (ev_sortI (ev_var (S := (rLst rInt).s K places) rfl (Sv.mono _ x17 (Sv.mono _ x1 z1))) src_p) (fun vv B19 H19 x19 w19 hv => ?_)
        cases hm
        exact k _ _ _ w19.st w19.ex (r_n w17 (imm_flat _) hv)
def m_lies_in : (List Int) × (List Int) → Option (Bool) := fun (places, others) =>
  (lcO (fun (place : Int) (rr : Unit) => match rr with | () => some (true, ())) (fun (place : Int) (rr : Unit) => match rr with | () => some ((decide (place ∈ others)), ())) places ()).bind fun (ys1, _) =>
  some (ys1.all id)
def p_lies_in (K : Fg) : Sp := Pr0 K (fun (g : (List Int) × (List Int)) => [(rTpl rInt).s K g.1, (rLst rInt).s K g.2]) m_lies_in rBool
abbrev N_lies_in : List Str := ["places", "others", "place"]
theorem sc_lies_in : FnScope N_lies_in ["places", "others"] (defScope s_lies_in) := ⟨rfl, rfl, rfl, by decide +kernel, rfl, by decide +kernel, by decide +kernel⟩
theorem ok_lies_in {P : Program} {w : World} {K : Fg} {mg : Str → Option Value} {base : Heap} (T : Tx P K mg) {fd : FuncData} (F : FnP K "lies_in" s_lies_in (He.ga K "lies_in") fd) : FnOk P w K mg base (L2.CX P w) 1 (He.ga K "lies_in") fd ["places", "others"] (p_lies_in K) := by
  have sc := sc_lies_in
  refine F.ok sc (fun vs H Q E h => ?_) (fun cdv A outer s H vs Q E hr h => ?_)
  · obtain ⟨g, z, B, ss, _⟩ := h
    exact (Paired.length ss).trans rfl
  · obtain ⟨⟨places, others⟩, z, B, ss, ex, hm, k⟩ := h
    obtain ⟨v0, v1, rfl, z0, z1⟩ := pn2 ss
    refine ⟨_, (pss_one (ps_ret (pe_callB (call_ (K := K) rfl rfl) (by rfl) T.b_all (by decide +kernel) (pa_cons (pe_lc (own := [("place", 2)]) (g := (gName 2)) (by rfl) sc.nd (pi_tup (pv 0)) (blkOk_by (own := [("place", 2)]) (N := N_lies_in) (sc := defScope s_lies_in) (by decide +kernel)) (fun _ _ _ _ _ => pg_name (i := 2) sc.nd rfl (Or.inl rfl)) (fun _ _ _ _ _ => pts_nil) (fun _ _ _ _ _ => (pe_cmpR (opin (K := K) rfl) (pv 2) (pv 1) (by rfl)))) pa_nil)))), ?_⟩
    have w := Wd.start (K := K) ex
    unfold m_lies_in at hm
    obtain ⟨⟨ys1, _⟩, e2, hm⟩ := ob hm
    try dsimp only at hm
    refine s_ret w (ev_all (ev_lc (R := rInt) (R' := rBool) (oo := (fun (rr : Unit) => [])) (fun (place : Int) (rr : Unit) => match rr with | () => some (true, ())) (fun (place : Int) (rr : Unit) => match rr with | () => some ((decide (place ∈ others)), ())) (lcT rInt K _ 2 [2]) (ei_tup (ev_var (S := (rTpl rInt).s K places) rfl z0)) e2 (lcT_mono _ _ _ _ _) (lcT_name rfl 2 [2] (by intro x; rfl)) (fun place rr bb r1 σ2 B' pD acc ht eB ⟨vx, hσ, hx⟩ => by cases ht; exact et_yes) (fun place rr yy r1 σ2 B' pD acc he eB ⟨vx, hσ, hx⟩ => by subst hσ; cases he; exact (ev_in (ev_var (S := rInt.s K place) rfl hx) (ev_var (S := (rLst rInt).s K others) rfl (Sv.mono _ eB z1)) src_p))) src_n) (fun vv B3 H3 x3 w3 hv => ?_)
    cases hm
    exact k _ _ _ w3.st w3.ex ((imm_flat _) _ _ _ _ _ hv)
def m_is_end : Int × Int → Option (Bool) := fun (size, x_end) =>
  some ((decide (x_end = (-1 : Int))) || (decide ((0 : Int) ≤ x_end) && decide (x_end < size)))
def p_is_end (K : Fg) : Sp := Pr0 K (fun (g : Int × Int) => [rInt.s K g.1, rInt.s K g.2]) m_is_end rBool
abbrev N_is_end : List Str := ["size", "end"]
theorem sc_is_end : FnScope N_is_end ["size", "end"] (defScope s_is_end) := ⟨rfl, rfl, rfl, by decide +kernel, rfl, by decide +kernel, by decide +kernel⟩
theorem ok_is_end {P : Program} {w : World} {K : Fg} {mg : Str → Option Value} {base : Heap} (T : Tx P K mg) {fd : FuncData} (F : FnP K "is_end" s_is_end (He.ga K "is_end") fd) : FnOk P w K mg base (L2.CX P w) 1 (He.ga K "is_end") fd ["size", "end"] (p_is_end K) := by
  obtain ⟨t_HOME, c_HOME⟩ := T.c_HOME
  have sc := sc_is_end
  refine F.ok sc (fun vs H Q E h => ?_) (fun cdv A outer s H vs Q E hr h => ?_)
  · obtain ⟨g, z, B, ss, _⟩ := h
    exact (Paired.length ss).trans rfl
  · obtain ⟨⟨size, x_end⟩, z, B, ss, ex, hm, k⟩ := h
    obtain ⟨v0, v1, rfl, z0, z1⟩ := pn2 ss
    refine ⟨_, (pss_one (ps_ret (pe_or (pe_cmpR op_eq (pv 1) (pe_glob (v := .int (-1)) (by rfl) c_HOME ⟨_, rfl⟩) (nomark _)) (pe_one (pe_chain op_le op_lt pe_int (pv 1) (pv 0)))))), ?_⟩
    have w := Wd.start (K := K) ex
    unfold m_is_end at hm
    refine s_ret w (ev_orV (ev_eqI (ev_var (S := rInt.s K x_end) rfl z1) ev_int) (fun _ => (ev_ch_le_lt ev_int (ev_var (S := rInt.s K x_end) rfl z1) (ev_var (S := rInt.s K size) rfl z0))) (fun _ => rfl)) (fun vv B1 H1 x1 w1 hv => ?_)
    cases hm
    exact k _ _ _ w1.st w1.ex ((imm_flat _) _ _ _ _ _ hv)
def m_ends_outside : Int × (List Int) → Option (List Int) := fun (size, places) =>
  (rngO (0 : Int) size).bind fun xs1 =>
  (lcO (fun (place : Int) (rr : Unit) => match rr with | () => some ((!decide (place ∈ places)), ())) (fun (place : Int) (rr : Unit) => match rr with | () => some (place, ())) xs1 ()).bind fun (ys3, _) =>
  (catO [(-1 : Int)] ys3).bind fun t7 =>
  some t7
def p_ends_outside (K : Fg) : Sp := Pr0 K (fun (g : Int × (List Int)) => [rInt.s K g.1, (rLst rInt).s K g.2]) m_ends_outside (rLst rInt)
abbrev N_ends_outside : List Str := ["size", "places", "place"]
theorem sc_ends_outside : FnScope N_ends_outside ["size", "places"] (defScope s_ends_outside) := ⟨rfl, rfl, rfl, by decide +kernel, rfl, by decide +kernel, by decide +kernel⟩
theorem ok_ends_outside {P : Program} {w : World} {K : Fg} {mg : Str → Option Value} {base : Heap} (T : Tx P K mg) {fd : FuncData} (F : FnP K "ends_outside" s_ends_outside (He.ga K "ends_outside") fd) : FnOk P w K mg base (L2.CX P w) 1 (He.ga K "ends_outside") fd ["size", "places"] (p_ends_outside K) := by
  obtain ⟨t_HOME, c_HOME⟩ := T.c_HOME
  have sc := sc_ends_outside
  refine F.ok sc (fun vs H Q E h => ?_) (fun cdv A outer s H vs Q E hr h => ?_)
  · obtain ⟨g, z, B, ss, _⟩ := h
    exact (Paired.length ss).trans rfl
  · obtain ⟨⟨size, places⟩, z, B, ss, ex, hm, k⟩ := h
    obtain ⟨v0, v1, rfl, z0, z1⟩ := pn2 ss
    refine ⟨_, (pss_one (ps_ret (pe_op op_cat (pe_lst (pa_cons (pe_glob (v := .int (-1)) (by rfl) c_HOME ⟨_, rfl⟩) pa_nil)) (pe_lc (own := [("place", 2)]) (g := (gName 2)) (by rfl) sc.nd (pi_range1 (by rfl) T.b_range (pa_cons (pv 0) pa_nil)) (blkOk_by (own := [("place", 2)]) (N := N_ends_outside) (sc := defScope s_ends_outside) (by decide +kernel)) (fun _ _ _ _ _ => pg_name (i := 2) sc.nd rfl (Or.inl rfl)) (fun _ _ _ _ _ => pts_one (pt_cmpR (opnin (K := K) rfl) (pv 2) (pv 1) (by rfl))) (fun _ _ _ _ _ => (pv 2)))))), ?_⟩
    have w := Wd.start (K := K) ex
    unfold m_ends_outside at hm
    obtain ⟨xs1, e2, hm⟩ := ob hm
    obtain ⟨⟨ys3, _⟩, e4, hm⟩ := ob hm
    try dsimp only at hm
    obtain ⟨t7, e5, hm⟩ := ob hm
    refine s_ret w (ev_catO (ev_lst (R := rInt) (xs := [(-1 : Int)]) (ea_cons ev_int ea_nil) (by show 1 ≤ 1000; decide)) (ev_lc (R := rInt) (R' := rInt) (oo := (fun (rr : Unit) => [])) (fun (place : Int) (rr : Unit) => match rr with | () => some ((!decide (place ∈ places)), ())) (fun (place : Int) (rr : Unit) => match rr with | () => some (place, ())) (lcT rInt K _ 2 [2]) (ei_r1 (ev_var (S := rInt.s K size) rfl z0) e2) e4 (lcT_mono _ _ _ _ _) (lcT_name rfl 2 [2] (by intro x; rfl)) (fun place rr bb r1 σ2 B' pD acc ht eB ⟨vx, hσ, hx⟩ => by subst hσ; cases ht; exact (et_test (ev_notin (ev_var (S := rInt.s K place) rfl hx) (ev_var (S := (rLst rInt).s K places) rfl (Sv.mono _ eB z1)) src_p))) (fun place rr yy r1 σ2 B' pD acc he eB ⟨vx, hσ, hx⟩ => by subst hσ; cases he; exact (ev_var (S := rInt.s K place) rfl hx))) src_n src_n e5) (fun vv B8 H8 x8 w8 hv => ?_)
    cases hm
    exact k _ _ _ w8.st w8.ex (r_n w (imm_flat _) hv)
def m_is_toll_row : Int × Int × (List Int) → Option (Bool) := fun (size, place, row) =>
  (cond (!decide ((row.length : Int) = (size + (1 : Int)))) (some true) ((atI row place).bind fun t1 => some (!decide (t1 = (0 : Int))))).bind fun b3 =>
  cond b3 (some false) ((m_ends_outside (size, [place])).bind fun r7 =>
  (lcO (fun (x_end : Int) (rr : Unit) => match rr with | () => some (true, ())) (fun (x_end : Int) (rr : Unit) => match rr with | () => (atI row x_end).bind fun t9 => some ((decide ((1 : Int) ≤ t9) && decide (t9 ≤ (1000000 : Int))), ())) r7 ()).bind fun (ys11, _) =>
  some (ys11.all id))
def p_is_toll_row (K : Fg) : Sp := Pr0 K (fun (g : Int × Int × (List Int)) => [rInt.s K g.1, rInt.s K g.2.1, (rLst rInt).s K g.2.2]) m_is_toll_row rBool
abbrev N_is_toll_row : List Str := ["size", "place", "row", "end"]
theorem sc_is_toll_row : FnScope N_is_toll_row ["size", "place", "row"] (defScope s_is_toll_row) := ⟨rfl, rfl, rfl, by decide +kernel, rfl, by decide +kernel, by decide +kernel⟩
theorem ok_is_toll_row {P : Program} {w : World} {K : Fg} {mg : Str → Option Value} {base : Heap} (T : Tx P K mg) {fd : FuncData} (F : FnP K "is_toll_row" s_is_toll_row (He.ga K "is_toll_row") fd) : FnOk P w K mg base (L2.CX P w) 2 (He.ga K "is_toll_row") fd ["size", "place", "row"] (p_is_toll_row K) := by
  obtain ⟨fd_ends_outside, F_ends_outside⟩ := T.f_ends_outside
  have G_ends_outside : FnOk P w K mg base (L2.CX P w) 1 (He.ga K "ends_outside") fd_ends_outside ["size", "places"] (p_ends_outside K) := ok_ends_outside T F_ends_outside
  have b_ends_outside : Binds K fd_ends_outside ["size", "places"] [] := F_ends_outside.bindsN fun _ _ _ _ _ _ us hl => match us, hl with | [_, _], _ => rfl
  obtain ⟨t_MOST_TOLL, c_MOST_TOLL⟩ := T.c_MOST_TOLL
  have sc := sc_is_toll_row
  refine F.ok sc (fun vs H Q E h => ?_) (fun cdv A outer s H vs Q E hr h => ?_)
  · obtain ⟨g, z, B, ss, _⟩ := h
    exact (Paired.length ss).trans rfl
  · obtain ⟨⟨size, place, row⟩, z, B, ss, ex, hm, k⟩ := h
    obtain ⟨v0, v1, v2, rfl, z0, z1, z2⟩ := pn3 ss
    refine ⟨_, (pss_cons (ps_if (PW.pt (pw_or (pt_cmpR op_ne (pe_callB (clen (K := K) rfl) (by rfl) T.b_len (by decide +kernel) (pa_cons (pv 2) pa_nil)) (pe_op op_add (pv 0) pe_int) (nomark _)) (pw_or1 (pt_cmpR op_ne (pe_ix (ixl (K := K) rfl) (pv 2) (pv 1) (fun _ _ => rfl)) pe_int (nomark _))))) (pss_one (ps_ret pe_bl)) pss_nil) (pss_one (ps_ret (pe_callB (call_ (K := K) rfl rfl) (by rfl) T.b_all (by decide +kernel) (pa_cons (pe_lc (own := [("end", 3)]) (g := (gName 3)) (by rfl) sc.nd (pi_list (pe_call G_ends_outside (hr.mono (by decide)) (by rfl) T.m_ends_outside F_ends_outside.kp b_ends_outside .nil passL (pa_cons (pv 0) (pa_cons (pe_lst (pa_cons (pv 1) pa_nil)) pa_nil)))) (blkOk_by (own := [("end", 3)]) (N := N_is_toll_row) (sc := defScope s_is_toll_row) (by decide +kernel)) (fun _ _ _ _ _ => pg_name (i := 3) sc.nd rfl (Or.inl rfl)) (fun _ _ _ _ _ => pts_nil) (fun _ _ _ _ _ => (pe_chain op_le op_le pe_int (pe_ix (ixl (K := K) rfl) (pv 2) (pv 3) (fun _ _ => rfl)) (pe_glob (v := .int (1000000)) (by rfl) c_MOST_TOLL ⟨_, rfl⟩)))) pa_nil))))), ?_⟩
    have w := Wd.start (K := K) ex
    unfold m_is_toll_row at hm
    obtain ⟨b3, e4, hm⟩ := ob hm
    try dsimp only
    refine s_if w (et_orO (b := b3) (et_test (ev_neI (ev_len (ev_var (S := (rLst rInt).s K row) rfl z2) src_p) (ev_add (ev_var (S := rInt.s K size) rfl z0) ev_int))) (fun hc => by have e4 := ie hc e4; obtain ⟨t1, e2, e4⟩ := ob e4; have hq_ := Option.some.inj e4; subst hq_; exact (et_test (ev_neI (ev_ix (ev_var (S := (rLst rInt).s K row) rfl z2) (ev_var (S := rInt.s K place) rfl z1) src_p e2) ev_int))) (fun hc => by have e4 := it hc e4; cases e4; exact ⟨rfl, rfl⟩)) (fun hb B5 H5 x5 w5 => ?_) (fun hb B5 H5 x5 w5 => ?_)
    · have hm := it hb hm
      refine s_ret w5 ev_bl (fun vv B6 H6 x6 w6 hv => ?_)
      cases hm
      exact k _ _ _ w6.st w6.ex ((imm_flat _) _ _ _ _ _ hv)
    · have hm := ie hb hm
      obtain ⟨r7, e8, hm⟩ := ob hm
      obtain ⟨⟨ys11, _⟩, e12, hm⟩ := ob hm
      try dsimp only at hm
      refine s_ret w5 (ev_all (ev_lc (R := rInt) (R' := rBool) (oo := (fun (rr : Unit) => [])) (fun (x_end : Int) (rr : Unit) => match rr with | () => some (true, ())) (fun (x_end : Int) (rr : Unit) => match rr with | () => (atI row x_end).bind fun t9 => some ((decide ((1 : Int) ≤ t9) && decide (t9 ≤ (1000000 : Int))), ())) (lcT rInt K _ 3 [3]) (ei_list ((ev_call0 (g := (size, [place])) (ea_cons (ev_var (S := rInt.s K size) rfl (Sv.mono _ x5 z0)) (ea_cons (ev_lst (R := rInt) (xs := [place]) (ea_cons (ev_var (S := rInt.s K place) rfl (Sv.mono _ x5 z1)) ea_nil) (by show 1 ≤ 1000; decide)) ea_nil)) (al_p (fun _ z => z) (al_le sn_s (fun _ z => z) al_nil)) e8).le g_s)) e12 (lcT_mono _ _ _ _ _) (lcT_name rfl 3 [3] (by intro x; rfl)) (fun x_end rr bb r1 σ2 B' pD acc ht eB ⟨vx, hσ, hx⟩ => by cases ht; exact et_yes) (fun x_end rr yy r1 σ2 B' pD acc he eB ⟨vx, hσ, hx⟩ => by subst hσ; obtain ⟨t9, e10, he⟩ := ob he; cases he; exact (ev_ch_le_le ev_int (ev_ix (ev_var (S := (rLst rInt).s K row) rfl (Sv.mono _ eB (Sv.mono _ x5 z2))) (ev_var (S := rInt.s K x_end) rfl hx) src_p e10) ev_int))) src_n) (fun vv B13 H13 x13 w13 hv => ?_)
      cases hm
      exact k _ _ _ w13.st w13.ex ((imm_flat _) _ _ _ _ _ hv)
def m_check_tolls : (List (List Int)) → Option (Except Xc Unit) := fun tolls =>
  cond (!(decide ((1 : Int) ≤ (tolls.length : Int)) && decide ((tolls.length : Int) ≤ (16 : Int)))) (some (.error (.one "BadTolls" "place" (-(1 : Int))))) (finK (fun (_ : Unit) => (some (.ok ()))) (fun (tt : Except Xc Unit) => some tt) (forL (fun (pr4 : Int × (List Int)) (_ : Unit) => ((m_is_toll_row ((tolls.length : Int), pr4.1, pr4.2)).bind fun r5 =>
  cond (!r5) (some (.rt (.error (.one "BadTolls" "place" pr4.1)))) (some (.nx ())) : Option (Ctl Unit (Except Xc Unit)))) (enumL tolls) ()))
def p_check_tolls (K : Fg) : Sp := PrX K (He.ga K) (fun (g : (List (List Int))) => [(rLst (rLst rInt)).s K g]) m_check_tolls rUnit
abbrev N_check_tolls : List Str := ["tolls", "place", "row"]
theorem sc_check_tolls : FnScope N_check_tolls ["tolls"] (defScope s_check_tolls) := ⟨rfl, rfl, rfl, by decide +kernel, rfl, by decide +kernel, by decide +kernel⟩
theorem ok_check_tolls {P : Program} {w : World} {K : Fg} {mg : Str → Option Value} {base : Heap} (T : Tx P K mg) {fd : FuncData} (F : FnP K "check_tolls" s_check_tolls (He.ga K "check_tolls") fd) : FnOk P w K mg base (L2.CX P w) 3 (He.ga K "check_tolls") fd ["tolls"] (p_check_tolls K) := by
  obtain ⟨fI_BadTolls, fd_BadTolls, a1_BadTolls, low_BadTolls⟩ := T.BadTolls.lo
  obtain ⟨fd_is_toll_row, F_is_toll_row⟩ := T.f_is_toll_row
  have G_is_toll_row : FnOk P w K mg base (L2.CX P w) 2 (He.ga K "is_toll_row") fd_is_toll_row ["size", "place", "row"] (p_is_toll_row K) := ok_is_toll_row T F_is_toll_row
  have b_is_toll_row : Binds K fd_is_toll_row ["size", "place", "row"] [] := F_is_toll_row.bindsN fun _ _ _ _ _ _ us hl => match us, hl with | [_, _, _], _ => rfl
  obtain ⟨t_MOST, c_MOST⟩ := T.c_MOST
  have sc := sc_check_tolls
  refine F.ok sc (fun vs H Q E h => ?_) (fun cdv A outer s H vs Q E hr h => ?_)
  · obtain ⟨g, z, B, ss, _⟩ := h
    exact (Paired.length ss).trans rfl
  · obtain ⟨tolls, z, B, ss, ex, hm, k⟩ := h
    obtain ⟨v0, rfl, z0⟩ := pn1 ss
    have hr1 : Room 1 _ := hr.mono (by decide)
    have tk := takes_of (X := cxOf (L2.CX P w) P w K mg base N_check_tolls "check_tolls" (defScope s_check_tolls) (He.ga K "check_tolls") cdv A outer s H E) rfl rfl rfl rfl
    refine ⟨_, (pss_cons (ps_if (pt_not (pt_chain op_le op_le pe_int (pe_callB (clen (K := K) rfl) (by rfl) T.b_len (by decide +kernel) (pa_cons (pv 0) pa_nil)) (pe_glob (v := .int (16)) (by rfl) c_MOST ⟨_, rfl⟩))) (pss_one (ps_raise rfl tk (Xi.pmk_low low_BadTolls hr1 (by rfl) T.BadTolls.gl (pa_cons (pe_un un_neg pe_int) pa_nil)))) pss_nil) (pss_one (ps_for (passes_of rfl) rfl (pi_enum (by rfl) T.b_enumerate (pa_cons (pv 0) pa_nil)) (pgt (K := K) rfl rfl (pgs_cons (pg_name (i := 1) sc.nd rfl (Or.inl rfl)) (pgs_cons (pg_name (i := 2) sc.nd rfl (Or.inl rfl)) pgs_nil))) (pss_one (ps_if (pt_not (pt_val (pe_call G_is_toll_row (hr.mono (by decide)) (by rfl) T.m_is_toll_row F_is_toll_row.kp b_is_toll_row .nil passL (pa_cons (pe_callB (clen (K := K) rfl) (by rfl) T.b_len (by decide +kernel) (pa_cons (pv 0) pa_nil)) (pa_cons (pv 1) (pa_cons (pv 2) pa_nil)))))) (pss_one (ps_raise rfl tk (Xi.pmk_low low_BadTolls hr1 (by rfl) T.BadTolls.gl (pa_cons (pv 1) pa_nil)))) pss_nil))))), ?_⟩
    have w := Wd.start (K := K) ex
    unfold m_check_tolls at hm
    try dsimp only
    refine s_if w (et_not (et_test (ev_ch_le_le ev_int (ev_len (ev_var (S := (rLst (rLst rInt)).s K tolls) rfl z0) src_p) ev_int))) (fun hb B1 H1 x1 w1 => ?_) (fun hb B1 H1 x1 w1 => ?_)
    · have hm := it hb hm
      refine s_raise w1 (ea_cons (ev_neg ev_int) ea_nil) (fun cls d B2 H2 x2 w2 hx => ?_)
      cases hm
      exact k cls d _ _ w2.st w2.ex hx
    · have hm := ie hb hm
      refine s_for (R := (rT2 rInt (rLst rInt))) (oo := (fun (rr : Unit) => [])) (ρ0 := ()) (fun (pr4 : Int × (List Int)) (_ : Unit) => ((m_is_toll_row ((tolls.length : Int), pr4.1, pr4.2)).bind fun r5 =>
cond (!r5) (some (.rt (.error (.one "BadTolls" "place" pr4.1)))) (some (.nx ())) : Option (Ctl Unit (Except Xc Unit)))) (fun (_ : Unit) σ' B' => ∃ o_1 : Option V, ∃ o_2 : Option V, σ' = [some v0, o_1, o_2]) (fun zz => finK _ _ zz = some _) w1 (ei_enum (ev_var (S := (rLst (rLst rInt)).s K tolls) rfl (Sv.mono _ x1 z0)) lp_s) (fun rr σ' B1 B2 e ⟨o_1, o_2, hσ⟩ => ⟨o_1, o_2, hσ⟩) (fun B2 e => ⟨_, _, rfl⟩) hm ?_ ?_
      · rintro pr4 rst rr vx3 σ' Bt3 Ht3 xt3 wt3 ⟨o_1t3, o_2t3, rfl⟩ hx3 hf N hN dn
        refine gt2 hx3 wt3.ex (fun va3 vb3 ha3 hb3 => ?_)
        dsimp only [gName]
        obtain ⟨ctl, hfx, hbk3, hrt3⟩ := forL_step hf
        have hm := hfx
        obtain ⟨r5, e6, hm⟩ := ob hm
        try dsimp only
        refine s_if wt3 (et_not (et_B ((ev_call0 (g := ((tolls.length : Int), pr4.1, pr4.2)) (ea_cons (ev_len (ev_var (S := (rLst (rLst rInt)).s K tolls) rfl (Sv.mono _ xt3 (Sv.mono _ x1 z0))) src_p) (ea_cons (ev_var (S := rInt.s K pr4.1) rfl ha3) (ea_cons (ev_var (S := (rLst rInt).s K pr4.2) rfl hb3) ea_nil))) (al_p (fun _ z => z) (al_p (fun _ z => z) (al_p (fun _ z => z) al_nil))) e6).le g_s))) (fun hb B7 H7 x7 w7 => ?_) (fun hb B7 H7 x7 w7 => ?_)
        · have hm := it hb hm
          refine s_raise w7 (ea_cons (ev_var (S := rInt.s K pr4.1) rfl (Sv.mono _ x7 ha3)) ea_nil) (fun cls d B8 H8 x8 w8 hx => ?_)
          cases hm
          replace hm := hrt3 _ rfl
          cases hm
          exact k cls d _ _ w8.st w8.ex hx
        · have hm := ie hb hm
          have hq_ := Option.some.inj hm
          subst hq_
          exact hN () _ _ _ hfx x7 w7 ⟨_, _, rfl⟩
      · rintro rr σ' B9 H9 x9 w9 ⟨o_1k10, o_2k10, rfl⟩ hm
        try dsimp only
        replace hm := finK_nx hm
        cases hm
        exact k _ _ _ w9.st w9.ex rfl
def m_check_road : (List (List Int)) × Int × Int → Option (Except Xc Unit) := fun (tolls, place, x_end) =>
  (m_check_tolls tolls).bind fun rx => match rx with
  | .error xe => some (.error xe)
  | .ok r1 => ((m_check_places ((tolls.length : Int), [place])).bind fun rx => match rx with
  | .error xe => some (.error xe)
  | .ok r4 => (cond (!decide (x_end = (-1 : Int))) ((m_check_places ((tolls.length : Int), [place, x_end])).bind fun rx => match rx with
  | .error xe => some (.error xe)
  | .ok r8 => (some (.ok ()))) (some (.ok ()))))
def p_check_road (K : Fg) : Sp := PrX K (He.ga K) (fun (g : (List (List Int)) × Int × Int) => [(rLst (rLst rInt)).s K g.1, rInt.s K g.2.1, rInt.s K g.2.2]) m_check_road rUnit
abbrev N_check_road : List Str := ["tolls", "place", "end"]
theorem sc_check_road : FnScope N_check_road ["tolls", "place", "end"] (defScope s_check_road) := ⟨rfl, rfl, rfl, by decide +kernel, rfl, by decide +kernel, by decide +kernel⟩
theorem ok_check_road {P : Program} {w : World} {K : Fg} {mg : Str → Option Value} {base : Heap} (T : Tx P K mg) {fd : FuncData} (F : FnP K "check_road" s_check_road (He.ga K "check_road") fd) : FnOk P w K mg base (L2.CX P w) 4 (He.ga K "check_road") fd ["tolls", "place", "end"] (p_check_road K) := by
  obtain ⟨fd_check_places, F_check_places⟩ := T.f_check_places
  have G_check_places : FnOk P w K mg base (L2.CX P w) 2 (He.ga K "check_places") fd_check_places ["size", "places"] (p_check_places K) := ok_check_places T F_check_places
  have b_check_places : Binds K fd_check_places ["size", "places"] [] := F_check_places.bindsN fun _ _ _ _ _ _ us hl => match us, hl with | [_, _], _ => rfl
  obtain ⟨fd_check_tolls, F_check_tolls⟩ := T.f_check_tolls
  have G_check_tolls : FnOk P w K mg base (L2.CX P w) 3 (He.ga K "check_tolls") fd_check_tolls ["tolls"] (p_check_tolls K) := ok_check_tolls T F_check_tolls
  have b_check_tolls : Binds K fd_check_tolls ["tolls"] [] := F_check_tolls.bindsN fun _ _ _ _ _ _ us hl => match us, hl with | [_], _ => rfl
  obtain ⟨t_HOME, c_HOME⟩ := T.c_HOME
  have sc := sc_check_road
  refine F.ok sc (fun vs H Q E h => ?_) (fun cdv A outer s H vs Q E hr h => ?_)
  · obtain ⟨g, z, B, ss, _⟩ := h
    exact (Paired.length ss).trans rfl
  · obtain ⟨⟨tolls, place, x_end⟩, z, B, ss, ex, hm, k⟩ := h
    obtain ⟨v0, v1, v2, rfl, z0, z1, z2⟩ := pn3 ss
    have tk := takes_of (X := cxOf (L2.CX P w) P w K mg base N_check_road "check_road" (defScope s_check_road) (He.ga K "check_road") cdv A outer s H E) rfl rfl rfl rfl
    refine ⟨_, (pss_cons (ps_expr (pe_call G_check_tolls (hr.mono (by decide)) (by rfl) T.m_check_tolls F_check_tolls.kp b_check_tolls .nil (passes_call tk fun _ _ _ _ h => h) (pa_cons (pv 0) pa_nil))) (pss_cons (ps_expr (pe_call G_check_places (hr.mono (by decide)) (by rfl) T.m_check_places F_check_places.kp b_check_places .nil (passes_call tk fun _ _ _ _ h => h) (pa_cons (pe_callB (clen (K := K) rfl) (by rfl) T.b_len (by decide +kernel) (pa_cons (pv 0) pa_nil)) (pa_cons (pe_lst (pa_cons (pv 1) pa_nil)) pa_nil)))) (pss_one (ps_if (pt_cmpR op_ne (pv 2) (pe_glob (v := .int (-1)) (by rfl) c_HOME ⟨_, rfl⟩) (nomark _)) (pss_one (ps_expr (pe_call G_check_places (hr.mono (by decide)) (by rfl) T.m_check_places F_check_places.kp b_check_places .nil (passes_call tk fun _ _ _ _ h => h) (pa_cons (pe_callB (clen (K := K) rfl) (by rfl) T.b_len (by decide +kernel) (pa_cons (pv 0) pa_nil)) (pa_cons (pe_lst (pa_cons (pv 1) (pa_cons (pv 2) pa_nil))) pa_nil))))) pss_nil)))), ?_⟩
    have w := Wd.start (K := K) ex
    unfold m_check_road at hm
    obtain ⟨r1, e2, hm⟩ := ob hm
    cases r1 with
    | error r1 =>
      refine callX w (ea_cons (ev_var (S := (rLst (rLst rInt)).s K tolls) rfl z0) ea_nil) (al_p (fun _ z => z) al_nil) e2 (fun cls d B3 H3 x3 w3 hx => ?_)
      cases hm
      exact k cls d _ _ w3.st w3.ex hx
    | ok r1 =>
      refine s_drop w (ev_callXok (g := tolls) (ea_cons (ev_var (S := (rLst (rLst rInt)).s K tolls) rfl z0) ea_nil) (al_p (fun _ z => z) al_nil) e2) (fun B3 H3 x3 w3 => ?_)
      try dsimp only
      obtain ⟨r4, e5, hm⟩ := ob hm
      cases r4 with
      | error r4 =>
        refine callX w3 (ea_cons (ev_len (ev_var (S := (rLst (rLst rInt)).s K tolls) rfl (Sv.mono _ x3 z0)) src_p) (ea_cons (ev_lst (R := rInt) (xs := [place]) (ea_cons (ev_var (S := rInt.s K place) rfl (Sv.mono _ x3 z1)) ea_nil) (by show 1 ≤ 1000; decide)) ea_nil)) (al_p (fun _ z => z) (al_le sn_s (fun _ z => z) al_nil)) e5 (fun cls d B6 H6 x6 w6 hx => ?_)
        cases hm
        exact k cls d _ _ w6.st w6.ex hx
      | ok r4 =>
        refine s_drop w3 (ev_callXok (g := ((tolls.length : Int), [place])) (ea_cons (ev_len (ev_var (S := (rLst (rLst rInt)).s K tolls) rfl (Sv.mono _ x3 z0)) src_p) (ea_cons (ev_lst (R := rInt) (xs := [place]) (ea_cons (ev_var (S := rInt.s K place) rfl (Sv.mono _ x3 z1)) ea_nil) (by show 1 ≤ 1000; decide)) ea_nil)) (al_p (fun _ z => z) (al_le sn_s (fun _ z => z) al_nil)) e5) (fun B6 H6 x6 w6 => ?_)
        try dsimp only
        try dsimp only
        refine s_if w6 (et_test (ev_neI (ev_var (S := rInt.s K x_end) rfl (Sv.mono _ x6 (Sv.mono _ x3 z2))) ev_int)) (fun hb B7 H7 x7 w7 => ?_) (fun hb B7 H7 x7 w7 => ?_)
        · have hm := it hb hm
          obtain ⟨r8, e9, hm⟩ := ob hm
          cases r8 with
          | error r8 =>
            refine callX w7 (ea_cons (ev_len (ev_var (S := (rLst (rLst rInt)).s K tolls) rfl (Sv.mono _ x7 (Sv.mono _ x6 (Sv.mono _ x3 z0)))) src_p) (ea_cons (ev_lst (R := rInt) (xs := [place, x_end]) (ea_cons (ev_var (S := rInt.s K place) rfl (Sv.mono _ x7 (Sv.mono _ x6 (Sv.mono _ x3 z1)))) (ea_cons (ev_var (S := rInt.s K x_end) rfl (Sv.mono _ x7 (Sv.mono _ x6 (Sv.mono _ x3 z2)))) ea_nil)) (by show 2 ≤ 1000; decide)) ea_nil)) (al_p (fun _ z => z) (al_le sn_s (fun _ z => z) al_nil)) e9 (fun cls d B10 H10 x10 w10 hx => ?_)
            cases hm
            exact k cls d _ _ w10.st w10.ex hx
          | ok r8 =>
            refine s_drop w7 (ev_callXok (g := ((tolls.length : Int), [place, x_end])) (ea_cons (ev_len (ev_var (S := (rLst (rLst rInt)).s K tolls) rfl (Sv.mono _ x7 (Sv.mono _ x6 (Sv.mono _ x3 z0)))) src_p) (ea_cons (ev_lst (R := rInt) (xs := [place, x_end]) (ea_cons (ev_var (S := rInt.s K place) rfl (Sv.mono _ x7 (Sv.mono _ x6 (Sv.mono _ x3 z1)))) (ea_cons (ev_var (S := rInt.s K x_end) rfl (Sv.mono _ x7 (Sv.mono _ x6 (Sv.mono _ x3 z2)))) ea_nil)) (by show 2 ≤ 1000; decide)) ea_nil)) (al_p (fun _ z => z) (al_le sn_s (fun _ z => z) al_nil)) e9) (fun B10 H10 x10 w10 => ?_)
            try dsimp only
            cases hm
            exact k _ _ _ w10.st w10.ex rfl
        · have hm := ie hb hm
          cases hm
          exact k _ _ _ w7.st w7.ex rfl
def m_toll_of : (List (List Int)) × Int × Int → Option (Except Xc Int) := fun (tolls, place, x_end) =>
  (m_check_road (tolls, place, x_end)).bind fun rx => match rx with
  | .error xe => some (.error xe)
  | .ok r1 => ((atI tolls place).bind fun t4 =>
  (atI t4 x_end).bind fun t6 =>
  some (.ok t6))
def p_toll_of (K : Fg) : Sp := PrX K (He.ga K) (fun (g : (List (List Int)) × Int × Int) => [(rLst (rLst rInt)).s K g.1, rInt.s K g.2.1, rInt.s K g.2.2]) m_toll_of rInt
abbrev N_toll_of : List Str := ["tolls", "place", "end"]
theorem sc_toll_of : FnScope N_toll_of ["tolls", "place", "end"] (defScope s_toll_of) := ⟨rfl, rfl, rfl, by decide +kernel, rfl, by decide +kernel, by decide +kernel⟩
theorem ok_toll_of {P : Program} {w : World} {K : Fg} {mg : Str → Option Value} {base : Heap} (T : Tx P K mg) {fd : FuncData} (F : FnP K "toll_of" s_toll_of (He.ga K "toll_of") fd) : FnOk P w K mg base (L2.CX P w) 5 (He.ga K "toll_of") fd ["tolls", "place", "end"] (p_toll_of K) := by
  obtain ⟨fd_check_road, F_check_road⟩ := T.f_check_road
  have G_check_road : FnOk P w K mg base (L2.CX P w) 4 (He.ga K "check_road") fd_check_road ["tolls", "place", "end"] (p_check_road K) := ok_check_road T F_check_road
  have b_check_road : Binds K fd_check_road ["tolls", "place", "end"] [] := F_check_road.bindsN fun _ _ _ _ _ _ us hl => match us, hl with | [_, _, _], _ => rfl
  have sc := sc_toll_of
  refine F.ok sc (fun vs H Q E h => ?_) (fun cdv A outer s H vs Q E hr h => ?_)
  · obtain ⟨g, z, B, ss, _⟩ := h
    exact (Paired.length ss).trans rfl
  · obtain ⟨⟨tolls, place, x_end⟩, z, B, ss, ex, hm, k⟩ := h
    obtain ⟨v0, v1, v2, rfl, z0, z1, z2⟩ := pn3 ss
    have tk := takes_of (X := cxOf (L2.CX P w) P w K mg base N_toll_of "toll_of" (defScope s_toll_of) (He.ga K "toll_of") cdv A outer s H E) rfl rfl rfl rfl
    refine ⟨_, (pss_cons (ps_expr (pe_call G_check_road (hr.mono (by decide)) (by rfl) T.m_check_road F_check_road.kp b_check_road .nil (passes_call tk fun _ _ _ _ h => h) (pa_cons (pv 0) (pa_cons (pv 1) (pa_cons (pv 2) pa_nil))))) (pss_one (ps_ret (pe_ix (ixl (K := K) rfl) (pe_ix (ixl (K := K) rfl) (pv 0) (pv 1) (fun _ _ => rfl)) (pv 2) (fun _ _ => rfl))))), ?_⟩
    have w := Wd.start (K := K) ex
    unfold m_toll_of at hm
    obtain ⟨r1, e2, hm⟩ := ob hm
    cases r1 with
    | error r1 =>
      refine callX w (ea_cons (ev_var (S := (rLst (rLst rInt)).s K tolls) rfl z0) (ea_cons (ev_var (S := rInt.s K place) rfl z1) (ea_cons (ev_var (S := rInt.s K x_end) rfl z2) ea_nil))) (al_p (fun _ z => z) (al_p (fun _ z => z) (al_p (fun _ z => z) al_nil))) e2 (fun cls d B3 H3 x3 w3 hx => ?_)
      cases hm
      exact k cls d _ _ w3.st w3.ex hx
    | ok r1 =>
      refine s_drop w (ev_callXok (g := (tolls, place, x_end)) (ea_cons (ev_var (S := (rLst (rLst rInt)).s K tolls) rfl z0) (ea_cons (ev_var (S := rInt.s K place) rfl z1) (ea_cons (ev_var (S := rInt.s K x_end) rfl z2) ea_nil))) (al_p (fun _ z => z) (al_p (fun _ z => z) (al_p (fun _ z => z) al_nil))) e2) (fun B3 H3 x3 w3 => ?_)
      try dsimp only
      obtain ⟨t4, e5, hm⟩ := ob hm
      obtain ⟨t6, e7, hm⟩ := ob hm
      refine s_ret w3 (ev_ix (ev_ix (ev_var (S := (rLst (rLst rInt)).s K tolls) rfl (Sv.mono _ x3 z0)) (ev_var (S := rInt.s K place) rfl (Sv.mono _ x3 z1)) src_p e5) (ev_var (S := rInt.s K x_end) rfl (Sv.mono _ x3 z2)) src_p e7) (fun vv B8 H8 x8 w8 hv => ?_)
      cases hm
      exact k _ _ _ w8.st w8.ex ((imm_flat _) _ _ _ _ _ hv)
def m_with_toll : (List (List Int)) × Int × Int × Int → Option (Except Xc (List (List Int))) := fun (tolls, place, x_end, toll) =>
  (m_check_road (tolls, place, x_end)).bind fun rx => match rx with
  | .error xe => some (.error xe)
  | .ok r1 => (cond (!(decide ((1 : Int) ≤ toll) && decide (toll ≤ (1000000 : Int)))) (some (.error (.one "BadNumber" "number" toll))) ((lcO (fun (row : List Int) (rr : Unit) => match rr with | () => some (true, ())) (fun (row : List Int) (rr : Unit) => match rr with | () => some (row, ())) tolls ()).bind fun (ys6, _) =>
  (rowO ys6 place).bind fun (j14, row15) =>
  (setO row15 x_end toll).bind fun row21 =>
  some (.ok (ys6.set j14 row21))))
def p_with_toll (K : Fg) : Sp := PrX K (He.ga K) (fun (g : (List (List Int)) × Int × Int × Int) => [(rLst (rLst rInt)).s K g.1, rInt.s K g.2.1, rInt.s K g.2.2.1, rInt.s K g.2.2.2]) m_with_toll rLL
abbrev N_with_toll : List Str := ["tolls", "place", "end", "toll", "table", "row"]
theorem sc_with_toll : FnScope N_with_toll ["tolls", "place", "end", "toll"] (defScope s_with_toll) := ⟨rfl, rfl, rfl, by decide +kernel, rfl, by decide +kernel, by decide +kernel⟩
theorem ok_with_toll {P : Program} {w : World} {K : Fg} {mg : Str → Option Value} {base : Heap} (T : Tx P K mg) {fd : FuncData} (F : FnP K "with_toll" s_with_toll (He.ga K "with_toll") fd) : FnOk P w K mg base (L2.CX P w) 5 (He.ga K "with_toll") fd ["tolls", "place", "end", "toll"] (p_with_toll K) := by
  obtain ⟨fI_BadNumber, fd_BadNumber, a1_BadNumber, low_BadNumber⟩ := T.BadNumber.lo
  obtain ⟨fd_check_road, F_check_road⟩ := T.f_check_road
  have G_check_road : FnOk P w K mg base (L2.CX P w) 4 (He.ga K "check_road") fd_check_road ["tolls", "place", "end"] (p_check_road K) := ok_check_road T F_check_road
  have b_check_road : Binds K fd_check_road ["tolls", "place", "end"] [] := F_check_road.bindsN fun _ _ _ _ _ _ us hl => match us, hl with | [_, _, _], _ => rfl
  obtain ⟨t_MOST_TOLL, c_MOST_TOLL⟩ := T.c_MOST_TOLL
  have sc := sc_with_toll
  refine F.ok sc (fun vs H Q E h => ?_) (fun cdv A outer s H vs Q E hr h => ?_)
  · obtain ⟨g, z, B, ss, _⟩ := h
    exact (Paired.length ss).trans rfl
  · obtain ⟨⟨tolls, place, x_end, toll⟩, z, B, ss, ex, hm, k⟩ := h
    obtain ⟨v0, v1, v2, v3, rfl, z0, z1, z2, z3⟩ := pn4 ss
    have hr1 : Room 1 _ := hr.mono (by decide)
    have tk := takes_of (X := cxOf (L2.CX P w) P w K mg base N_with_toll "with_toll" (defScope s_with_toll) (He.ga K "with_toll") cdv A outer s H E) rfl rfl rfl rfl
    refine ⟨_, (pss_cons (ps_expr (pe_call G_check_road (hr.mono (by decide)) (by rfl) T.m_check_road F_check_road.kp b_check_road .nil (passes_call tk fun _ _ _ _ h => h) (pa_cons (pv 0) (pa_cons (pv 1) (pa_cons (pv 2) pa_nil))))) (pss_cons (ps_if (pt_not (pt_chain op_le op_le pe_int (pv 3) (pe_glob (v := .int (1000000)) (by rfl) c_MOST_TOLL ⟨_, rfl⟩))) (pss_one (ps_raise rfl tk (Xi.pmk_low low_BadNumber hr1 (by rfl) T.BadNumber.gl (pa_cons (pv 3) pa_nil)))) pss_nil) (pss_cons (ps_setLc (i := 4) (own := [("row", 5)]) (g := (gName 5)) (by rfl) sc.nd rfl rfl (sw_true rfl rfl rfl (by decide +kernel)) (pi_list (pv 0)) (blkOk_by (own := [("row", 5)]) (N := N_with_toll) (sc := defScope s_with_toll) (by decide +kernel)) (fun _ _ _ _ _ => pg_name (i := 5) sc.nd rfl (Or.inl rfl)) (fun _ _ _ _ _ => pts_nil) (fun _ _ _ _ _ => (pe_callTy (clst (K := K) rfl) (by rfl) T.b_list (by decide +kernel) (pa_cons (pv 5) pa_nil)))) (pss_cons (ps_asg (pv 3) (pg_sub (pe_ix (ixl (K := K) rfl) (pv 4) (pv 1) (fun _ _ => rfl)) (pv 2) set_list)) (pss_one (ps_ret (pv 4))))))), ?_⟩
    have w := Wd.start (K := K) ex
    unfold m_with_toll at hm
    obtain ⟨r1, e2, hm⟩ := ob hm
    cases r1 with
    | error r1 =>
      refine callX w (ea_cons (ev_var (S := (rLst (rLst rInt)).s K tolls) rfl z0) (ea_cons (ev_var (S := rInt.s K place) rfl z1) (ea_cons (ev_var (S := rInt.s K x_end) rfl z2) ea_nil))) (al_p (fun _ z => z) (al_p (fun _ z => z) (al_p (fun _ z => z) al_nil))) e2 (fun cls d B3 H3 x3 w3 hx => ?_)
      cases hm
      exact k cls d _ _ w3.st w3.ex hx
    | ok r1 =>
      refine s_drop w (ev_callXok (g := (tolls, place, x_end)) (ea_cons (ev_var (S := (rLst (rLst rInt)).s K tolls) rfl z0) (ea_cons (ev_var (S := rInt.s K place) rfl z1) (ea_cons (ev_var (S := rInt.s K x_end) rfl z2) ea_nil))) (al_p (fun _ z => z) (al_p (fun _ z => z) (al_p (fun _ z => z) al_nil))) e2) (fun B3 H3 x3 w3 => ?_)
      try dsimp only
      try dsimp only
      refine s_if w3 (et_not (et_test (ev_ch_le_le ev_int (ev_var (S := rInt.s K toll) rfl (Sv.mono _ x3 z3)) ev_int))) (fun hb B4 H4 x4 w4 => ?_) (fun hb B4 H4 x4 w4 => ?_)
      · have hm := it hb hm
        refine s_raise w4 (ea_cons (ev_var (S := rInt.s K toll) rfl (Sv.mono _ x4 (Sv.mono _ x3 z3))) ea_nil) (fun cls d B5 H5 x5 w5 hx => ?_)
        cases hm
        exact k cls d _ _ w5.st w5.ex hx
      · have hm := ie hb hm
        obtain ⟨⟨ys6, _⟩, e7, hm⟩ := ob hm
        try dsimp only at hm
        refine s_ownT w4 (ev_lcF (R := (rLst rInt)) (oo := (fun (rr : Unit) => [])) (fun (row : List Int) (rr : Unit) => match rr with | () => some (true, ())) (fun (row : List Int) (rr : Unit) => match rr with | () => some (row, ())) (lcT (rLst rInt) K _ 5 [5]) (ei_list (ev_var (S := (rLst (rLst rInt)).s K tolls) rfl (Sv.mono _ x4 (Sv.mono _ x3 z0)))) e7 (lcT_mono _ _ _ _ _) (lcT_name rfl 5 [5] (by intro x; rfl)) (fun row rr bb r1 σ2 B' pD acc ht eB ⟨vx, hσ, hx⟩ => by cases ht; exact et_yes) (fun Hh row rr yy r1 σ2 B' pD acc he eB ⟨vx, hσ, hx⟩ => by subst hσ; cases he; exact (ev_list (ev_var (S := (rLst rInt).s K row) rfl hx) src_p))) trivial (fun q9 rs10 B8 H8 x8 hl13 n11 nr12 w8 => ?_)
        obtain ⟨⟨j14, row15⟩, e16, hm⟩ := ob hm
        obtain ⟨hj18, hr19⟩ := rowO_eq e16
        obtain ⟨q17, hq20⟩ := rs_at hl13 hr19
        try dsimp only at hm
        obtain ⟨row21, e22, hm⟩ := ob hm
        refine s_set (j14 + 1) (by simpa using hq20) w8 (ev_var (S := rInt.s K toll) rfl (Sv.mono _ x8 (Sv.mono _ x4 (Sv.mono _ x3 z3)))) (ev_row 0 rfl (ev_var (S := SA q9) rfl rfl) (ev_var (S := rInt.s K place) rfl (Sv.mono _ x8 (Sv.mono _ x4 (Sv.mono _ x3 z1)))) rfl hl13 hj18 hq20) (ev_var (S := rInt.s K x_end) rfl (Sv.mono _ x8 (Sv.mono _ x4 (Sv.mono _ x3 z2)))) (show _ = some (CL rInt K row15) by simp [hr19, rInt, rTag, rBool]) e22 (fun B23 H23 x23 w23 => ?_)
        have w24 := Wd.eq (os' := (CO rs10 :: List.map (CL rInt K) (ys6.set j14 row21))) w23 (by simp [List.map_set, rInt, rTag, rBool])
        have hl25 := len_set (j := j14) (y := row21) hl13
        refine s_ret w24 (ev_var (S := SA q9) rfl rfl) (fun vv B26 H26 x26 w26 hv => ?_)
        cases (show vv = _ from hv)
        cases hm
        obtain ⟨Bz, xz, w27, rz⟩ := r_grp (ks := []) (os := []) w26 n11 nr12 rfl
        exact k _ _ _ w27.st w27.ex rz
def m_is_part : (List Int) × (List Int) × Int → Option (Bool) := fun (shut, places, price) =>
  cond ((decide ((places.length : Int) = (0 : Int))) || (decide (price < (0 : Int)))) (some false) ((m_lies_in (places, shut)).bind fun r3 =>
  (cond r3 ((sortSetO places).bind fun t5 => some (decide (places = t5))) (some false)).bind fun b7 =>
  some b7)
def p_is_part (K : Fg) : Sp := Pr0 K (fun (g : (List Int) × (List Int) × Int) => [(rLst rInt).s K g.1, (rTpl rInt).s K g.2.1, rInt.s K g.2.2]) m_is_part rBool
abbrev N_is_part : List Str := ["shut", "places", "price"]
theorem sc_is_part : FnScope N_is_part ["shut", "places", "price"] (defScope s_is_part) := ⟨rfl, rfl, rfl, by decide +kernel, rfl, by decide +kernel, by decide +kernel⟩
theorem ok_is_part {P : Program} {w : World} {K : Fg} {mg : Str → Option Value} {base : Heap} (T : Tx P K mg) {fd : FuncData} (F : FnP K "is_part" s_is_part (He.ga K "is_part") fd) : FnOk P w K mg base (L2.CX P w) 2 (He.ga K "is_part") fd ["shut", "places", "price"] (p_is_part K) := by
  obtain ⟨fd_lies_in, F_lies_in⟩ := T.f_lies_in
  have G_lies_in : FnOk P w K mg base (L2.CX P w) 1 (He.ga K "lies_in") fd_lies_in ["places", "others"] (p_lies_in K) := ok_lies_in T F_lies_in
  have b_lies_in : Binds K fd_lies_in ["places", "others"] [] := F_lies_in.bindsN fun _ _ _ _ _ _ us hl => match us, hl with | [_, _], _ => rfl
  have sc := sc_is_part
  refine F.ok sc (fun vs H Q E h => ?_) (fun cdv A outer s H vs Q E hr h => ?_)
  · obtain ⟨g, z, B, ss, _⟩ := h
    exact (Paired.length ss).trans rfl
  · obtain ⟨⟨shut, places, price⟩, z, B, ss, ex, hm, k⟩ := h
    obtain ⟨v0, v1, v2, rfl, z0, z1, z2⟩ := pn3 ss
    have hu := hr.units
    refine ⟨_, (pss_cons (ps_if (PW.pt (pw_or (pt_cmpR op_eq (pe_callB (clen (K := K) rfl) (by rfl) T.b_len (by decide +kernel) (pa_cons (pv 1) pa_nil)) pe_int (nomark _)) (pw_or1 (pt_cmpR op_lt (pv 2) pe_int (nomark _))))) (pss_one (ps_ret pe_bl)) pss_nil) (pss_one (ps_ret (pe_and (pe_call G_lies_in (hr.mono (by decide)) (by rfl) T.m_lies_in F_lies_in.kp b_lies_in .nil passL (pa_cons (pv 1) (pa_cons (pv 0) pa_nil))) (pe_one (pe_cmpR (opeqD (K := K) rfl hu) (pe_callTy (clst (K := K) rfl) (by rfl) T.b_list (by decide +kernel) (pa_cons (pv 1) pa_nil)) (pe_callB (cr_sortedSet rfl) (by rfl) T.b_sorted (by decide +kernel) (pa_cons (pe_callTy (cr_setTI rfl) (by rfl) T.b_set (by decide +kernel) (pa_cons (pv 1) pa_nil)) pa_nil)) (nomark _))))))), ?_⟩
    have w := Wd.start (K := K) ex
    unfold m_is_part at hm
    try dsimp only
    refine s_if w (et_or (et_test (ev_eqI (ev_lenT (ev_var (S := (rTpl rInt).s K places) rfl z1)) ev_int)) (fun _ => (et_test (ev_lt (ev_var (S := rInt.s K price) rfl z2) ev_int))) (fun _ => rfl)) (fun hb B1 H1 x1 w1 => ?_) (fun hb B1 H1 x1 w1 => ?_)
    · have hm := it hb hm
      refine s_ret w1 ev_bl (fun vv B2 H2 x2 w2 hv => ?_)
      cases hm
      exact k _ _ _ w2.st w2.ex ((imm_flat _) _ _ _ _ _ hv)
    · have hm := ie hb hm
      obtain ⟨r3, e4, hm⟩ := ob hm
      obtain ⟨b7, e8, hm⟩ := ob hm
      refine s_ret w1 (ev_andO (b := b7) ((ev_call0 (g := (places, shut)) (ea_cons (ev_var (S := (rTpl rInt).s K places) rfl (Sv.mono _ x1 z1)) (ea_cons (ev_var (S := (rLst rInt).s K shut) rfl (Sv.mono _ x1 z0)) ea_nil)) (al_p (fun _ z => z) (al_p (fun _ z => z) al_nil)) e4).le g_s) (fun hc => by have e8 := it hc e8; obtain ⟨t5, e6, e8⟩ := ob e8; have hq_ := Option.some.inj e8; subst hq_; exact (ev_eqD (dqLst dqInt) (ev_listT (ev_var (S := (rTpl rInt).s K places) rfl (Sv.mono _ x1 z1))) (ev_sortSet (ev_var (S := (rTpl rInt).s K places) rfl (Sv.mono _ x1 z1)) e6) srd_n srd_n)) (fun hc => by have e8 := ie hc e8; cases e8; exact ⟨rfl, rfl⟩)) (fun vv B9 H9 x9 w9 hv => ?_)
      cases hm
      exact k _ _ _ w9.st w9.ex ((imm_flat _) _ _ _ _ _ hv)
def m_charged : (List ((List Int) × Int)) × Int × Int → Option (Int) := fun (parts, place, x_end) =>
  (lcO (fun (pr : (List Int) × Int) (rr : Unit) => match rr with | () => some (((decide (place ∈ pr.1)) && (!decide (x_end ∈ pr.1))), ())) (fun (pr : (List Int) × Int) (rr : Unit) => match rr with | () => some (pr.2, ())) parts ()).bind fun (ys1, _) =>
  some ys1.sum
def p_charged (K : Fg) : Sp := Pr0 K (fun (g : (List ((List Int) × Int)) × Int × Int) => [(rLst (rT2 (rTpl rInt) rInt)).s K g.1, rInt.s K g.2.1, rInt.s K g.2.2]) m_charged rInt
abbrev N_charged : List Str := ["parts", "place", "end", "places", "price"]
theorem sc_charged : FnScope N_charged ["parts", "place", "end"] (defScope s_charged) := ⟨rfl, rfl, rfl, by decide +kernel, rfl, by decide +kernel, by decide +kernel⟩
theorem ok_charged {P : Program} {w : World} {K : Fg} {mg : Str → Option Value} {base : Heap} (T : Tx P K mg) {fd : FuncData} (F : FnP K "charged" s_charged (He.ga K "charged") fd) : FnOk P w K mg base (L2.CX P w) 1 (He.ga K "charged") fd ["parts", "place", "end"] (p_charged K) := by
  have sc := sc_charged
  refine F.ok sc (fun vs H Q E h => ?_) (fun cdv A outer s H vs Q E hr h => ?_)
  · obtain ⟨g, z, B, ss, _⟩ := h
    exact (Paired.length ss).trans rfl
  · obtain ⟨⟨parts, place, x_end⟩, z, B, ss, ex, hm, k⟩ := h
    obtain ⟨v0, v1, v2, rfl, z0, z1, z2⟩ := pn3 ss
    refine ⟨_, (pss_one (ps_ret (pe_callB (csum (K := K) rfl rfl) (by rfl) T.b_sum (by decide +kernel) (pa_cons (pe_lc (own := [("places", 3), ("price", 4)]) (g := (gTup K 2 (gCons (gName 3) (gCons (gName 4) gNil)))) (by rfl) sc.nd (pi_list (pv 0)) (blkOk_by (own := [("places", 3), ("price", 4)]) (N := N_charged) (sc := defScope s_charged) (by decide +kernel)) (fun _ _ _ _ _ => pgt (K := K) rfl rfl (pgs_cons (pg_name (i := 3) sc.nd rfl (Or.inl rfl)) (pgs_cons (pg_name (i := 4) sc.nd rfl (Or.inl rfl)) pgs_nil))) (fun _ _ _ _ _ => pts_one (PW.pt (pw_and (pt_cmpR (opin (K := K) rfl) (pv 1) (pv 3) (by rfl)) (pw_and1 (pt_cmpR (opnin (K := K) rfl) (pv 2) (pv 3) (by rfl)))))) (fun _ _ _ _ _ => (pv 4))) pa_nil)))), ?_⟩
    have w := Wd.start (K := K) ex
    unfold m_charged at hm
    obtain ⟨⟨ys1, _⟩, e2, hm⟩ := ob hm
    try dsimp only at hm
    refine s_ret w (ev_sum (ev_lc (R := (rT2 (rTpl rInt) rInt)) (R' := rInt) (oo := (fun (rr : Unit) => [])) (fun (pr : (List Int) × Int) (rr : Unit) => match rr with | () => some (((decide (place ∈ pr.1)) && (!decide (x_end ∈ pr.1))), ())) (fun (pr : (List Int) × Int) (rr : Unit) => match rr with | () => some (pr.2, ())) (lcT2 (rTpl rInt) rInt K _ 3 4 [3, 4]) (ei_list (ev_var (S := (rLst (rT2 (rTpl rInt) rInt)).s K parts) rfl z0)) e2 (lcT2_mono _ _ _ _ _ _ _) (lcT2_name rfl 3 4 [3, 4] (by intro x y; rfl)) (fun pr rr bb r1 σ2 B' pD acc ht eB ⟨va, vb, hσ, hxa, hxb⟩ => by subst hσ; cases ht; exact (et_and (et_test (ev_inT (ev_var (S := rInt.s K place) rfl (Sv.mono _ eB z1)) (ev_var (S := (rTpl rInt).s K pr.1) rfl hxa))) (fun _ => (et_test (ev_notinT (ev_var (S := rInt.s K x_end) rfl (Sv.mono _ eB z2)) (ev_var (S := (rTpl rInt).s K pr.1) rfl hxa)))) (fun _ => rfl))) (fun pr rr yy r1 σ2 B' pD acc he eB ⟨va, vb, hσ, hxa, hxb⟩ => by subst hσ; cases he; exact (ev_var (S := rInt.s K pr.2) rfl hxb))) src_n) (fun vv B3 H3 x3 w3 hv => ?_)
    cases hm
    exact k _ _ _ w3.st w3.ex ((imm_flat _) _ _ _ _ _ hv)
def m_bill_holds : (List (List Int)) × (List Int) × (List ((List Int) × Int)) → Option (Except Xc Bool) := fun (tolls, shut, parts) =>
  (m_check_tolls tolls).bind fun rx => match rx with
  | .error xe => some (.error xe)
  | .ok r1 => ((m_check_places ((tolls.length : Int), shut)).bind fun rx => match rx with
  | .error xe => some (.error xe)
  | .ok r4 => ((lcO (fun (pr : (List Int) × Int) (rr : Unit) => match rr with | () => some (true, ())) (fun (pr : (List Int) × Int) (rr : Unit) => match rr with | () => (m_is_part (r4, pr.1, pr.2)).bind fun r9 => some (r9, ())) parts ()).bind fun (ys11, _) =>
  cond (!(ys11.all id)) (some (.ok false)) (finK (fun (_ : Unit) => (some (.ok true))) (fun (tt : Except Xc Bool) => some tt) (forL (fun (place16 : Int) (_ : Unit) => ((m_ends_outside ((tolls.length : Int), [place16])).bind fun r17 =>
  finK (fun (_ : Unit) => (some (.nx ()))) (fun (tt : Except Xc Bool) => some (.rt tt)) (forL (fun (x_end20 : Int) (_ : Unit) => ((m_charged (parts, place16, x_end20)).bind fun r21 =>
  (atI tolls place16).bind fun t23 =>
  (atI t23 x_end20).bind fun t25 =>
  cond (decide (t25 < r21)) (some (.rt (.ok false))) (some (.nx ())) : Option (Ctl Unit (Except Xc Bool)))) r17 ()) : Option (Ctl Unit (Except Xc Bool)))) r4 ()))))
def p_bill_holds (K : Fg) : Sp := PrX K (He.ga K) (fun (g : (List (List Int)) × (List Int) × (List ((List Int) × Int))) => [(rLst (rLst rInt)).s K g.1, (rLst rInt).s K g.2.1, (rLst (rT2 (rTpl rInt) rInt)).s K g.2.2]) m_bill_holds rBool
abbrev N_bill_holds : List Str := ["tolls", "shut", "parts", "listed", "places", "price", "place", "end"]
theorem sc_bill_holds : FnScope N_bill_holds ["tolls", "shut", "parts"] (defScope s_bill_holds) := ⟨rfl, rfl, rfl, by decide +kernel, rfl, by decide +kernel, by decide +kernel⟩
theorem ok_bill_holds {P : Program} {w : World} {K : Fg} {mg : Str → Option Value} {base : Heap} (T : Tx P K mg) {fd : FuncData} (F : FnP K "bill_holds" s_bill_holds (He.ga K "bill_holds") fd) : FnOk P w K mg base (L2.CX P w) 4 (He.ga K "bill_holds") fd ["tolls", "shut", "parts"] (p_bill_holds K) := by
  obtain ⟨fd_charged, F_charged⟩ := T.f_charged
  have G_charged : FnOk P w K mg base (L2.CX P w) 1 (He.ga K "charged") fd_charged ["parts", "place", "end"] (p_charged K) := ok_charged T F_charged
  have b_charged : Binds K fd_charged ["parts", "place", "end"] [] := F_charged.bindsN fun _ _ _ _ _ _ us hl => match us, hl with | [_, _, _], _ => rfl
  obtain ⟨fd_check_places, F_check_places⟩ := T.f_check_places
  have G_check_places : FnOk P w K mg base (L2.CX P w) 2 (He.ga K "check_places") fd_check_places ["size", "places"] (p_check_places K) := ok_check_places T F_check_places
  have b_check_places : Binds K fd_check_places ["size", "places"] [] := F_check_places.bindsN fun _ _ _ _ _ _ us hl => match us, hl with | [_, _], _ => rfl
  obtain ⟨fd_check_tolls, F_check_tolls⟩ := T.f_check_tolls
  have G_check_tolls : FnOk P w K mg base (L2.CX P w) 3 (He.ga K "check_tolls") fd_check_tolls ["tolls"] (p_check_tolls K) := ok_check_tolls T F_check_tolls
  have b_check_tolls : Binds K fd_check_tolls ["tolls"] [] := F_check_tolls.bindsN fun _ _ _ _ _ _ us hl => match us, hl with | [_], _ => rfl
  obtain ⟨fd_ends_outside, F_ends_outside⟩ := T.f_ends_outside
  have G_ends_outside : FnOk P w K mg base (L2.CX P w) 1 (He.ga K "ends_outside") fd_ends_outside ["size", "places"] (p_ends_outside K) := ok_ends_outside T F_ends_outside
  have b_ends_outside : Binds K fd_ends_outside ["size", "places"] [] := F_ends_outside.bindsN fun _ _ _ _ _ _ us hl => match us, hl with | [_, _], _ => rfl
  obtain ⟨fd_is_part, F_is_part⟩ := T.f_is_part
  have G_is_part : FnOk P w K mg base (L2.CX P w) 2 (He.ga K "is_part") fd_is_part ["shut", "places", "price"] (p_is_part K) := ok_is_part T F_is_part
  have b_is_part : Binds K fd_is_part ["shut", "places", "price"] [] := F_is_part.bindsN fun _ _ _ _ _ _ us hl => match us, hl with | [_, _, _], _ => rfl
  have sc := sc_bill_holds
  refine F.ok sc (fun vs H Q E h => ?_) (fun cdv A outer s H vs Q E hr h => ?_)
  · obtain ⟨g, z, B, ss, _⟩ := h
    exact (Paired.length ss).trans rfl
  · obtain ⟨⟨tolls, shut, parts⟩, z, B, ss, ex, hm, k⟩ := h
    obtain ⟨v0, v1, v2, rfl, z0, z1, z2⟩ := pn3 ss
    have tk := takes_of (X := cxOf (L2.CX P w) P w K mg base N_bill_holds "bill_holds" (defScope s_bill_holds) (He.ga K "bill_holds") cdv A outer s H E) rfl rfl rfl rfl
    refine ⟨_, (pss_cons (ps_expr (pe_call G_check_tolls (hr.mono (by decide)) (by rfl) T.m_check_tolls F_check_tolls.kp b_check_tolls .nil (passes_call tk fun _ _ _ _ h => h) (pa_cons (pv 0) pa_nil))) (pss_cons (ps_set (i := 3) sc.nd rfl (Or.inr rfl) (pe_call G_check_places (hr.mono (by decide)) (by rfl) T.m_check_places F_check_places.kp b_check_places .nil (passes_call tk fun _ _ _ _ h => h) (pa_cons (pe_callB (clen (K := K) rfl) (by rfl) T.b_len (by decide +kernel) (pa_cons (pv 0) pa_nil)) (pa_cons (pv 1) pa_nil)))) (pss_cons (ps_if (pt_not (pt_val (pe_callB (call_ (K := K) rfl rfl) (by rfl) T.b_all (by decide +kernel) (pa_cons (pe_lc (own := [("places", 4), ("price", 5)]) (g := (gTup K 2 (gCons (gName 4) (gCons (gName 5) gNil)))) (by rfl) sc.nd (pi_list (pv 2)) (blkOk_by (own := [("places", 4), ("price", 5)]) (N := N_bill_holds) (sc := defScope s_bill_holds) (by decide +kernel)) (fun _ _ _ _ _ => pgt (K := K) rfl rfl (pgs_cons (pg_name (i := 4) sc.nd rfl (Or.inl rfl)) (pgs_cons (pg_name (i := 5) sc.nd rfl (Or.inl rfl)) pgs_nil))) (fun _ _ _ _ _ => pts_nil) (fun _ _ _ _ _ => (pe_call G_is_part (hr.mono (by decide)) (by rfl) T.m_is_part F_is_part.kp b_is_part .nil passL (pa_cons (pv 3) (pa_cons (pv 4) (pa_cons (pv 5) pa_nil)))))) pa_nil)))) (pss_one (ps_ret pe_bl)) pss_nil) (pss_cons (ps_for (passes_of rfl) rfl (pi_list (pv 3)) (pg_name (i := 6) sc.nd rfl (Or.inl rfl)) (pss_one (ps_for (passes_of rfl) rfl (pi_list (pe_call G_ends_outside (hr.mono (by decide)) (by rfl) T.m_ends_outside F_ends_outside.kp b_ends_outside .nil passL (pa_cons (pe_callB (clen (K := K) rfl) (by rfl) T.b_len (by decide +kernel) (pa_cons (pv 0) pa_nil)) (pa_cons (pe_lst (pa_cons (pv 6) pa_nil)) pa_nil)))) (pg_name (i := 7) sc.nd rfl (Or.inl rfl)) (pss_one (ps_if (pt_cmpR op_gt (pe_call G_charged (hr.mono (by decide)) (by rfl) T.m_charged F_charged.kp b_charged .nil passL (pa_cons (pv 2) (pa_cons (pv 6) (pa_cons (pv 7) pa_nil)))) (pe_ix (ixl (K := K) rfl) (pe_ix (ixl (K := K) rfl) (pv 0) (pv 6) (fun _ _ => rfl)) (pv 7) (fun _ _ => rfl)) (nomark _)) (pss_one (ps_ret pe_bl)) pss_nil))))) (pss_one (ps_ret pe_bl)))))), ?_⟩
    have w := Wd.start (K := K) ex
    unfold m_bill_holds at hm
    obtain ⟨r1, e2, hm⟩ := ob hm
    cases r1 with
    | error r1 =>
      refine callX w (ea_cons (ev_var (S := (rLst (rLst rInt)).s K tolls) rfl z0) ea_nil) (al_p (fun _ z => z) al_nil) e2 (fun cls d B3 H3 x3 w3 hx => ?_)
      cases hm
      exact k cls d _ _ w3.st w3.ex hx
    | ok r1 =>
      refine s_drop w (ev_callXok (g := tolls) (ea_cons (ev_var (S := (rLst (rLst rInt)).s K tolls) rfl z0) ea_nil) (al_p (fun _ z => z) al_nil) e2) (fun B3 H3 x3 w3 => ?_)
      try dsimp only
      obtain ⟨r4, e5, hm⟩ := ob hm
      cases r4 with
      | error r4 =>
        refine callX w3 (ea_cons (ev_len (ev_var (S := (rLst (rLst rInt)).s K tolls) rfl (Sv.mono _ x3 z0)) src_p) (ea_cons (ev_var (S := (rLst rInt).s K shut) rfl (Sv.mono _ x3 z1)) ea_nil)) (al_p (fun _ z => z) (al_p (fun _ z => z) al_nil)) e5 (fun cls d B6 H6 x6 w6 hx => ?_)
        cases hm
        exact k cls d _ _ w6.st w6.ex hx
      | ok r4 =>
        refine s_asg w3 ((ev_callXok (g := ((tolls.length : Int), shut)) (ea_cons (ev_len (ev_var (S := (rLst (rLst rInt)).s K tolls) rfl (Sv.mono _ x3 z0)) src_p) (ea_cons (ev_var (S := (rLst rInt).s K shut) rfl (Sv.mono _ x3 z1)) ea_nil)) (al_p (fun _ z => z) (al_p (fun _ z => z) al_nil)) e5).le g_s) (fun v_7 B6 H6 x6 w6 h8 => ?_)
        try dsimp only
        obtain ⟨⟨ys11, _⟩, e12, hm⟩ := ob hm
        try dsimp only at hm
        try dsimp only
        refine s_if w6 (et_not (et_B (ev_all (ev_lc (R := (rT2 (rTpl rInt) rInt)) (R' := rBool) (oo := (fun (rr : Unit) => [])) (fun (pr : (List Int) × Int) (rr : Unit) => match rr with | () => some (true, ())) (fun (pr : (List Int) × Int) (rr : Unit) => match rr with | () => (m_is_part (r4, pr.1, pr.2)).bind fun r9 => some (r9, ())) (lcT2 (rTpl rInt) rInt K _ 4 5 [4, 5]) (ei_list (ev_var (S := (rLst (rT2 (rTpl rInt) rInt)).s K parts) rfl (Sv.mono _ x6 (Sv.mono _ x3 z2)))) e12 (lcT2_mono _ _ _ _ _ _ _) (lcT2_name rfl 4 5 [4, 5] (by intro x y; rfl)) (fun pr rr bb r1 σ2 B' pD acc ht eB ⟨va, vb, hσ, hxa, hxb⟩ => by cases ht; exact et_yes) (fun pr rr yy r1 σ2 B' pD acc he eB ⟨va, vb, hσ, hxa, hxb⟩ => by subst hσ; obtain ⟨r9, e10, he⟩ := ob he; cases he; exact ((ev_call0 (g := (r4, pr.1, pr.2)) (ea_cons (ev_var (S := (rLst rInt).s K r4) rfl (Sv.mono _ eB h8)) (ea_cons (ev_var (S := (rTpl rInt).s K pr.1) rfl hxa) (ea_cons (ev_var (S := rInt.s K pr.2) rfl hxb) ea_nil))) (al_p (fun _ z => z) (al_p (fun _ z => z) (al_p (fun _ z => z) al_nil))) e10).le g_s))) src_n))) (fun hb B13 H13 x13 w13 => ?_) (fun hb B13 H13 x13 w13 => ?_)
        · have hm := it hb hm
          refine s_ret w13 ev_bl (fun vv B14 H14 x14 w14 hv => ?_)
          cases hm
          exact k _ _ _ w14.st w14.ex ((imm_flat _) _ _ _ _ _ hv)
        · have hm := ie hb hm
          refine s_for (R := rInt) (oo := (fun (rr : Unit) => [])) (ρ0 := ()) (fun (place16 : Int) (_ : Unit) => ((m_ends_outside ((tolls.length : Int), [place16])).bind fun r17 =>
finK (fun (_ : Unit) => (some (.nx ()))) (fun (tt : Except Xc Bool) => some (.rt tt)) (forL (fun (x_end20 : Int) (_ : Unit) => ((m_charged (parts, place16, x_end20)).bind fun r21 =>
(atI tolls place16).bind fun t23 =>
(atI t23 x_end20).bind fun t25 =>
cond (decide (t25 < r21)) (some (.rt (.ok false))) (some (.nx ())) : Option (Ctl Unit (Except Xc Bool)))) r17 ()) : Option (Ctl Unit (Except Xc Bool)))) (fun (_ : Unit) σ' B' => ∃ o_4 : Option V, ∃ o_5 : Option V, ∃ o_6 : Option V, ∃ o_7 : Option V, σ' = [some v0, some v1, some v2, some v_7, o_4, o_5, o_6, o_7]) (fun zz => finK _ _ zz = some _) w13 (ei_list (ev_var (S := (rLst rInt).s K r4) rfl (Sv.mono _ x13 h8))) (fun rr σ' B1 B2 e ⟨o_4, o_5, o_6, o_7, hσ⟩ => ⟨o_4, o_5, o_6, o_7, hσ⟩) (fun B2 e => ⟨_, _, _, _, rfl⟩) hm ?_ ?_
          · rintro place16 rst rr vx15 σ' Bt15 Ht15 xt15 wt15 ⟨o_4t15, o_5t15, o_6t15, o_7t15, rfl⟩ hx15 hf N hN dn
            dsimp only [gName]
            obtain ⟨ctl, hfx, hbk15, hrt15⟩ := forL_step hf
            have hm := hfx
            obtain ⟨r17, e18, hm⟩ := ob hm
            refine s_for (R := rInt) (oo := (fun (rr : Unit) => [])) (ρ0 := ()) (fun (x_end20 : Int) (_ : Unit) => ((m_charged (parts, place16, x_end20)).bind fun r21 =>
(atI tolls place16).bind fun t23 =>
(atI t23 x_end20).bind fun t25 =>
cond (decide (t25 < r21)) (some (.rt (.ok false))) (some (.nx ())) : Option (Ctl Unit (Except Xc Bool)))) (fun (_ : Unit) σ' B' => ∃ o_4 : Option V, ∃ o_5 : Option V, ∃ o_7 : Option V, σ' = [some v0, some v1, some v2, some v_7, o_4, o_5, some vx15, o_7]) (fun zz => finK _ _ zz = some _) wt15 (ei_list ((ev_call0 (g := ((tolls.length : Int), [place16])) (ea_cons (ev_len (ev_var (S := (rLst (rLst rInt)).s K tolls) rfl (Sv.mono _ xt15 (Sv.mono _ x13 (Sv.mono _ x6 (Sv.mono _ x3 z0))))) src_p) (ea_cons (ev_lst (R := rInt) (xs := [place16]) (ea_cons (ev_var (S := rInt.s K place16) rfl hx15) ea_nil) (by show 1 ≤ 1000; decide)) ea_nil)) (al_p (fun _ z => z) (al_le sn_s (fun _ z => z) al_nil)) e18).le g_s)) (fun rr σ' B1 B2 e ⟨o_4, o_5, o_7, hσ⟩ => ⟨o_4, o_5, o_7, hσ⟩) (fun B2 e => ⟨_, _, _, rfl⟩) hm ?_ ?_
            · rintro x_end20 rst rr vx19 σ' Bt19 Ht19 xt19 wt19 ⟨o_4t19, o_5t19, o_7t19, rfl⟩ hx19 hf N hN dn
              dsimp only [gName]
              obtain ⟨ctl, hfx, hbk19, hrt19⟩ := forL_step hf
              have hm := hfx
              obtain ⟨r21, e22, hm⟩ := ob hm
              obtain ⟨t23, e24, hm⟩ := ob hm
              obtain ⟨t25, e26, hm⟩ := ob hm
              try dsimp only
              refine s_if wt19 (et_test (ev_gt ((ev_call0 (g := (parts, place16, x_end20)) (ea_cons (ev_var (S := (rLst (rT2 (rTpl rInt) rInt)).s K parts) rfl (Sv.mono _ xt19 (Sv.mono _ xt15 (Sv.mono _ x13 (Sv.mono _ x6 (Sv.mono _ x3 z2)))))) (ea_cons (ev_var (S := rInt.s K place16) rfl (Sv.mono _ xt19 hx15)) (ea_cons (ev_var (S := rInt.s K x_end20) rfl hx19) ea_nil))) (al_p (fun _ z => z) (al_p (fun _ z => z) (al_p (fun _ z => z) al_nil))) e22).le g_s) (ev_ix (ev_ix (ev_var (S := (rLst (rLst rInt)).s K tolls) rfl (Sv.mono _ xt19 (Sv.mono _ xt15 (Sv.mono _ x13 (Sv.mono _ x6 (Sv.mono _ x3 z0)))))) (ev_var (S := rInt.s K place16) rfl (Sv.mono _ xt19 hx15)) src_p e24) (ev_var (S := rInt.s K x_end20) rfl hx19) src_p e26))) (fun hb B27 H27 x27 w27 => ?_) (fun hb B27 H27 x27 w27 => ?_)
              · have hm := it hb hm
                refine s_ret w27 ev_bl (fun vv B28 H28 x28 w28 hv => ?_)
                cases hm
                replace hm := hrt19 _ rfl
                cases hm
                replace hm := hrt15 _ rfl
                cases hm
                exact k _ _ _ w28.st w28.ex ((imm_flat _) _ _ _ _ _ hv)
              · have hm := ie hb hm
                have hq_ := Option.some.inj hm
                subst hq_
                exact hN () _ _ _ hfx x27 w27 ⟨_, _, _, rfl⟩
            · rintro rr σ' B29 H29 x29 w29 ⟨o_4k30, o_5k30, o_7k30, rfl⟩ hm
              try dsimp only
              replace hm := finK_nx hm
              have hq_ := Option.some.inj hm
              subst hq_
              exact hN () _ _ _ hfx x29 w29 ⟨_, _, _, _, rfl⟩
          · rintro rr σ' B31 H31 x31 w31 ⟨o_4k32, o_5k32, o_6k32, o_7k32, rfl⟩ hm
            try dsimp only
            replace hm := finK_nx hm
            refine s_ret w31 ev_bl (fun vv B33 H33 x33 w33 hv => ?_)
            cases hm
            exact k _ _ _ w33.st w33.ex ((imm_flat _) _ _ _ _ _ hv)
def m_end_of : (List Int) × Int → Option (Option Int) := fun (plan, place) =>
  finK (fun (stand4 : Int) => ((cond (!decide (stand4 = (-1 : Int))) ((atI plan stand4).bind fun t19 => some (!decide (t19 = stand4))) (some false)).bind fun b21 =>
  cond b21 (some none) (some (some stand4)))) (fun (_ : Unit) => none) (forL (fun (u_6 : Int) (stand4 : Int) => ((cond (!decide (stand4 = (-1 : Int))) ((atI plan stand4).bind fun t9 =>
  some t9) (some stand4)).bind fun stand8 =>
  some (.nx stand8) : Option (Ctl Int Unit))) plan place)
def p_end_of (K : Fg) : Sp := Pr0 K (fun (g : (List Int) × Int) => [(rLst rInt).s K g.1, rInt.s K g.2]) m_end_of (rOpt rInt)
abbrev N_end_of : List Str := ["plan", "place", "stand", "_"]
theorem sc_end_of : FnScope N_end_of ["plan", "place"] (defScope s_end_of) := ⟨rfl, rfl, rfl, by decide +kernel, rfl, by decide +kernel, by decide +kernel⟩
theorem ok_end_of {P : Program} {w : World} {K : Fg} {mg : Str → Option Value} {base : Heap} (T : Tx P K mg) {fd : FuncData} (F : FnP K "end_of" s_end_of (He.ga K "end_of") fd) : FnOk P w K mg base (L2.CX P w) 1 (He.ga K "end_of") fd ["plan", "place"] (p_end_of K) := by
  obtain ⟨t_HOME, c_HOME⟩ := T.c_HOME
  have sc := sc_end_of
  refine F.ok sc (fun vs H Q E h => ?_) (fun cdv A outer s H vs Q E hr h => ?_)
  · obtain ⟨g, z, B, ss, _⟩ := h
    exact (Paired.length ss).trans rfl
  · obtain ⟨⟨plan, place⟩, z, B, ss, ex, hm, k⟩ := h
    obtain ⟨v0, v1, rfl, z0, z1⟩ := pn2 ss
    refine ⟨_, (pss_cons (ps_set (i := 2) sc.nd rfl (Or.inl rfl) (pv 1)) (pss_cons (ps_for (passes_of rfl) rfl (pi_list (pv 0)) (pg_name (i := 3) sc.nd rfl (Or.inl rfl)) (pss_one (ps_if (pt_cmpR op_ne (pv 2) (pe_glob (v := .int (-1)) (by rfl) c_HOME ⟨_, rfl⟩) (nomark _)) (pss_one (ps_set (i := 2) sc.nd rfl (Or.inl rfl) (pe_ix (ixl (K := K) rfl) (pv 0) (pv 2) (fun _ _ => rfl)))) pss_nil))) (pss_cons (ps_if (PW.pt (pw_and (pt_cmpR op_ne (pv 2) (pe_glob (v := .int (-1)) (by rfl) c_HOME ⟨_, rfl⟩) (nomark _)) (pw_and1 (pt_cmpR op_ne (pe_ix (ixl (K := K) rfl) (pv 0) (pv 2) (fun _ _ => rfl)) (pv 2) (nomark _))))) (pss_one (ps_ret pe_non)) pss_nil) (pss_one (ps_ret (pv 2)))))), ?_⟩
    have w := Wd.start (K := K) ex
    unfold m_end_of at hm
    refine s_asg w (ev_var (S := rInt.s K place) rfl z1) (fun v_2 B1 H1 x1 w1 h3 => ?_)
    refine s_for (R := rInt) (oo := (fun (rr : Int) => [])) (ρ0 := place) (fun (u_6 : Int) (stand4 : Int) => ((cond (!decide (stand4 = (-1 : Int))) ((atI plan stand4).bind fun t9 =>
some t9) (some stand4)).bind fun stand8 =>
some (.nx stand8) : Option (Ctl Int Unit))) (fun (rr : Int) σ' B' => ∃ v_2 : V, ∃ o_3 : Option V, σ' = [some v0, some v1, some v_2, o_3] ∧ (rInt.s K rr).p v_2 B') (fun zz => finK _ _ zz = some _) w1 (ei_list (ev_var (S := (rLst rInt).s K plan) rfl (Sv.mono _ x1 z0))) (fun rr σ' B1 B2 e ⟨v_2, o_3, hσ, hj0⟩ => ⟨v_2, o_3, hσ, Sv.mono _ e hj0⟩) (fun B2 e => ⟨v_2, _, rfl, (Sv.mono _ e h3)⟩) hm ?_ ?_
    · rintro u_6 rst stand4 vx5 σ' Bt5 Ht5 xt5 wt5 ⟨v_2t5, o_3t5, rfl, hj0t5⟩ hx5 hf N hN dn
      dsimp only [gName]
      obtain ⟨ctl, hfx, hbk5, hrt5⟩ := forL_step hf
      have hm := hfx
      obtain ⟨rj, hA16, hm⟩ := ob hm
      refine s_ifJ (ks2 := []) (oo := (fun (rr : Int) => [])) (fun (rr : Int) σ' B' => ∃ v_2 : V, σ' = [some v0, some v1, some v_2, some vx5] ∧ (rInt.s K rr).p v_2 B') (fun rr => rr = rj) wt5 (et_test (ev_neI (ev_var (S := rInt.s K stand4) rfl hj0t5) ev_int)) ?_ (fun hb B7 H7 x7 w7 N hN => ?_) (fun hb B7 H7 x7 w7 N hN => ?_)
      · rintro stand8 σ' B14 H14 x14 w14 ⟨v_2k15, rfl, hj0k15⟩ hq
        subst hq
        try dsimp only
        have hq_ := Option.some.inj hm
        subst hq_
        exact hN stand8 _ _ _ hfx x14 w14 ⟨v_2k15, _, rfl, hj0k15⟩
      · have hm := it hb hA16
        obtain ⟨t9, e10, hm⟩ := ob hm
        refine s_asg w7 (ev_ix (ev_var (S := (rLst rInt).s K plan) rfl (Sv.mono _ x7 (Sv.mono _ xt5 (Sv.mono _ x1 z0)))) (ev_var (S := rInt.s K stand4) rfl (Sv.mono _ x7 hj0t5)) src_p e10) (fun v_12 B11 H11 x11 w11 h13 => ?_)
        have hq_ := Option.some.inj hm
        subst hq_
        exact hN t9 _ _ _ (x7.trans x11) w11 ⟨v_12, rfl, h13⟩ rfl
      · have hm := ie hb hA16
        have hq_ := Option.some.inj hm
        subst hq_
        exact hN stand4 _ _ _ x7 w7 ⟨v_2t5, rfl, (Sv.mono _ x7 hj0t5)⟩ rfl
    · rintro stand4 σ' B17 H17 x17 w17 ⟨v_2k18, o_3k18, rfl, hj0k18⟩ hm
      try dsimp only
      replace hm := finK_nx hm
      obtain ⟨b21, e22, hm⟩ := ob hm
      try dsimp only
      refine s_if w17 (et_andO (b := b21) (et_test (ev_neI (ev_var (S := rInt.s K stand4) rfl hj0k18) ev_int)) (fun hc => by have e22 := it hc e22; obtain ⟨t19, e20, e22⟩ := ob e22; have hq_ := Option.some.inj e22; subst hq_; exact (et_test (ev_neI (ev_ix (ev_var (S := (rLst rInt).s K plan) rfl (Sv.mono _ x17 (Sv.mono _ x1 z0))) (ev_var (S := rInt.s K stand4) rfl hj0k18) src_p e20) (ev_var (S := rInt.s K stand4) rfl hj0k18)))) (fun hc => by have e22 := ie hc e22; cases e22; exact ⟨rfl, rfl⟩)) (fun hb B23 H23 x23 w23 => ?_) (fun hb B23 H23 x23 w23 => ?_)
      · have hm := it hb hm
        refine s_ret w23 (ev_nonO (R := rInt)) (fun vv B24 H24 x24 w24 hv => ?_)
        cases hm
        exact k _ _ _ w24.st w24.ex ((imm_Opt (imm_flat _)) _ _ _ _ _ hv)
      · have hm := ie hb hm
        refine s_ret w23 ((ev_var (S := rInt.s K stand4) rfl (Sv.mono _ x23 hj0k18)).le s_opt) (fun vv B25 H25 x25 w25 hv => ?_)
        cases hm
        exact k _ _ _ w25.st w25.ex ((imm_Opt (imm_flat _)) _ _ _ _ _ hv)
def m_plan_ends : (List Int) → Option (Except Xc (List Int)) := fun plan =>
  cond (!(decide ((1 : Int) ≤ (plan.length : Int)) && decide ((plan.length : Int) ≤ (16 : Int)))) (some (.error (.one "BadPlan" "place" (-(1 : Int))))) (finK (fun (_ : Unit) => ((rngO (0 : Int) (plan.length : Int)).bind fun xs14 =>
  (lcO (fun (place : Int) (rr : Unit) => match rr with | () => some (true, ())) (fun (place : Int) (rr : Unit) => match rr with | () => (m_end_of (plan, place)).bind fun r16 => some (r16, ())) xs14 ()).bind fun (ys18, _) =>
  cond (memD none ys18) ((idxGO ys18 none).bind fun t24 =>
  some (.error (.one "BadPlan" "place" t24))) ((allO idO ys18).bind fun t27 =>
  some (.ok t27)))) (fun (tt : Except Xc (List Int)) => some tt) (forL (fun (pr7 : Int × Int) (_ : Unit) => ((m_is_end ((plan.length : Int), pr7.2)).bind fun r8 =>
  cond (!r8) (some (.rt (.error (.one "BadPlan" "place" pr7.1)))) (some (.nx ())) : Option (Ctl Unit (Except Xc (List Int))))) (enumL plan) ()))
def p_plan_ends (K : Fg) : Sp := PrXa K (He.ga K) (fun (g : (List Int)) => [(rLst rInt).s K g]) m_plan_ends (rLst rInt)
abbrev N_plan_ends : List Str := ["plan", "size", "place", "entry", "ends"]
theorem sc_plan_ends : FnScope N_plan_ends ["plan"] (defScope s_plan_ends) := ⟨rfl, rfl, rfl, by decide +kernel, rfl, by decide +kernel, by decide +kernel⟩
theorem ok_plan_ends {P : Program} {w : World} {K : Fg} {mg : Str → Option Value} {base : Heap} (T : Tx P K mg) {fd : FuncData} (F : FnP K "plan_ends" s_plan_ends (He.ga K "plan_ends") fd) : FnOk P w K mg base (L2.CX P w) 2 (He.ga K "plan_ends") fd ["plan"] (p_plan_ends K) := by
  obtain ⟨fI_BadPlan, fd_BadPlan, a1_BadPlan, low_BadPlan⟩ := T.BadPlan.lo
  obtain ⟨fd_end_of, F_end_of⟩ := T.f_end_of
  have G_end_of : FnOk P w K mg base (L2.CX P w) 1 (He.ga K "end_of") fd_end_of ["plan", "place"] (p_end_of K) := ok_end_of T F_end_of
  have b_end_of : Binds K fd_end_of ["plan", "place"] [] := F_end_of.bindsN fun _ _ _ _ _ _ us hl => match us, hl with | [_, _], _ => rfl
  obtain ⟨fd_is_end, F_is_end⟩ := T.f_is_end
  have G_is_end : FnOk P w K mg base (L2.CX P w) 1 (He.ga K "is_end") fd_is_end ["size", "end"] (p_is_end K) := ok_is_end T F_is_end
  have b_is_end : Binds K fd_is_end ["size", "end"] [] := F_is_end.bindsN fun _ _ _ _ _ _ us hl => match us, hl with | [_, _], _ => rfl
  obtain ⟨t_MOST, c_MOST⟩ := T.c_MOST
  have sc := sc_plan_ends
  refine F.ok sc (fun vs H Q E h => ?_) (fun cdv A outer s H vs Q E hr h => ?_)
  · obtain ⟨g, z, B, ss, _⟩ := h
    exact (Paired.length ss).trans rfl
  · obtain ⟨plan, z, B, ss, ex, hm, k⟩ := h
    obtain ⟨v0, rfl, z0⟩ := pn1 ss
    have hu1 := hu_of65 hr
    have hr1 : Room 1 _ := hr.mono (by decide)
    have tk := takes_of (X := cxOf (L2.CX P w) P w K mg base N_plan_ends "plan_ends" (defScope s_plan_ends) (He.ga K "plan_ends") cdv A outer s H E) rfl rfl rfl rfl
    refine ⟨_, (pss_cons (ps_set (i := 1) sc.nd rfl (Or.inl rfl) (pe_callB (clen (K := K) rfl) (by rfl) T.b_len (by decide +kernel) (pa_cons (pv 0) pa_nil))) (pss_cons (ps_if (pt_not (pt_chain op_le op_le pe_int (pv 1) (pe_glob (v := .int (16)) (by rfl) c_MOST ⟨_, rfl⟩))) (pss_one (ps_raise rfl tk (Xi.pmk_low low_BadPlan hr1 (by rfl) T.BadPlan.gl (pa_cons (pe_un un_neg pe_int) pa_nil)))) pss_nil) (pss_cons (ps_for (passes_of rfl) rfl (pi_enum (by rfl) T.b_enumerate (pa_cons (pv 0) pa_nil)) (pgt (K := K) rfl rfl (pgs_cons (pg_name (i := 2) sc.nd rfl (Or.inl rfl)) (pgs_cons (pg_name (i := 3) sc.nd rfl (Or.inl rfl)) pgs_nil))) (pss_one (ps_if (pt_not (pt_val (pe_call G_is_end (hr.mono (by decide)) (by rfl) T.m_is_end F_is_end.kp b_is_end .nil passL (pa_cons (pv 1) (pa_cons (pv 3) pa_nil))))) (pss_one (ps_raise rfl tk (Xi.pmk_low low_BadPlan hr1 (by rfl) T.BadPlan.gl (pa_cons (pv 2) pa_nil)))) pss_nil))) (pss_cons (ps_setLc (i := 4) (own := [("place", 2)]) (g := (gName 2)) (by rfl) sc.nd rfl rfl (sw_true rfl rfl rfl (by decide +kernel)) (pi_range1 (by rfl) T.b_range (pa_cons (pv 1) pa_nil)) (blkOk_by (own := [("place", 2)]) (N := N_plan_ends) (sc := defScope s_plan_ends) (by decide +kernel)) (fun _ _ _ _ _ => pg_name (i := 2) sc.nd rfl (Or.inl rfl)) (fun _ _ _ _ _ => pts_nil) (fun _ _ _ _ _ => (pe_call G_end_of (hr.mono (by decide)) (by rfl) T.m_end_of F_end_of.kp b_end_of .nil passL (pa_cons (pv 0) (pa_cons (pv 2) pa_nil))))) (pss_cons (ps_if (pt_cmpR (opinD (K := K) rfl hu1) pe_non (pv 4) (by rfl)) (pss_one (ps_raise rfl tk (Xi.pmk_low low_BadPlan hr1 (by rfl) T.BadPlan.gl (pa_cons (pe_bm PySem.F.plainAttrs_list PySem.F.slot_list_index PySem.F.type_list_index (mt_indexD hu1) (pv 4) (pa_cons pe_non pa_nil)) pa_nil)))) pss_nil) (pss_one (ps_ret (pv 4)))))))), ?_⟩
    have w := Wd.start (K := K) ex
    unfold m_plan_ends at hm
    refine s_asg w (ev_len (ev_var (S := (rLst rInt).s K plan) rfl z0) src_p) (fun v_2 B1 H1 x1 w1 h3 => ?_)
    try dsimp only
    refine s_if w1 (et_not (et_test (ev_ch_le_le ev_int (ev_var (S := rInt.s K (plan.length : Int)) rfl h3) ev_int))) (fun hb B4 H4 x4 w4 => ?_) (fun hb B4 H4 x4 w4 => ?_)
    · have hm := it hb hm
      refine s_raise w4 (ea_cons (ev_neg ev_int) ea_nil) (fun cls d B5 H5 x5 w5 hx => ?_)
      cases hm
      exact k cls d _ _ w5.st w5.ex hx
    · have hm := ie hb hm
      refine s_for (R := (rT2 rInt rInt)) (oo := (fun (rr : Unit) => [])) (ρ0 := ()) (fun (pr7 : Int × Int) (_ : Unit) => ((m_is_end ((plan.length : Int), pr7.2)).bind fun r8 =>
cond (!r8) (some (.rt (.error (.one "BadPlan" "place" pr7.1)))) (some (.nx ())) : Option (Ctl Unit (Except Xc (List Int))))) (fun (_ : Unit) σ' B' => ∃ o_2 : Option V, ∃ o_3 : Option V, ∃ o_4 : Option V, σ' = [some v0, some v_2, o_2, o_3, o_4]) (fun zz => finK _ _ zz = some _) w4 (ei_enum (ev_var (S := (rLst rInt).s K plan) rfl (Sv.mono _ x4 (Sv.mono _ x1 z0))) lp_s) (fun rr σ' B1 B2 e ⟨o_2, o_3, o_4, hσ⟩ => ⟨o_2, o_3, o_4, hσ⟩) (fun B2 e => ⟨_, _, _, rfl⟩) hm ?_ ?_
      · rintro pr7 rst rr vx6 σ' Bt6 Ht6 xt6 wt6 ⟨o_2t6, o_3t6, o_4t6, rfl⟩ hx6 hf N hN dn
        refine gt2 hx6 wt6.ex (fun va6 vb6 ha6 hb6 => ?_)
        dsimp only [gName]
        obtain ⟨ctl, hfx, hbk6, hrt6⟩ := forL_step hf
        have hm := hfx
        obtain ⟨r8, e9, hm⟩ := ob hm
        try dsimp only
        refine s_if wt6 (et_not (et_B ((ev_call0 (g := ((plan.length : Int), pr7.2)) (ea_cons (ev_var (S := rInt.s K (plan.length : Int)) rfl (Sv.mono _ xt6 (Sv.mono _ x4 h3))) (ea_cons (ev_var (S := rInt.s K pr7.2) rfl hb6) ea_nil)) (al_p (fun _ z => z) (al_p (fun _ z => z) al_nil)) e9).le g_s))) (fun hb B10 H10 x10 w10 => ?_) (fun hb B10 H10 x10 w10 => ?_)
        · have hm := it hb hm
          refine s_raise w10 (ea_cons (ev_var (S := rInt.s K pr7.1) rfl (Sv.mono _ x10 ha6)) ea_nil) (fun cls d B11 H11 x11 w11 hx => ?_)
          cases hm
          replace hm := hrt6 _ rfl
          cases hm
          exact k cls d _ _ w11.st w11.ex hx
        · have hm := ie hb hm
          have hq_ := Option.some.inj hm
          subst hq_
          exact hN () _ _ _ hfx x10 w10 ⟨_, _, _, rfl⟩
      · rintro rr σ' B12 H12 x12 w12 ⟨o_2k13, o_3k13, o_4k13, rfl⟩ hm
        try dsimp only
        replace hm := finK_nx hm
        obtain ⟨xs14, e15, hm⟩ := ob hm
        obtain ⟨⟨ys18, _⟩, e19, hm⟩ := ob hm
        try dsimp only at hm
        refine s_asg w12 ((ev_lc (R := rInt) (R' := (rOpt rInt)) (oo := (fun (rr : Unit) => [])) (fun (place : Int) (rr : Unit) => match rr with | () => some (true, ())) (fun (place : Int) (rr : Unit) => match rr with | () => (m_end_of (plan, place)).bind fun r16 => some (r16, ())) (lcT rInt K _ 2 [2]) (ei_r1 (ev_var (S := rInt.s K (plan.length : Int)) rfl (Sv.mono _ x12 (Sv.mono _ x4 h3))) e15) e19 (lcT_mono _ _ _ _ _) (lcT_name rfl 2 [2] (by intro x; rfl)) (fun place rr bb r1 σ2 B' pD acc ht eB ⟨vx, hσ, hx⟩ => by cases ht; exact et_yes) (fun place rr yy r1 σ2 B' pD acc he eB ⟨vx, hσ, hx⟩ => by subst hσ; obtain ⟨r16, e17, he⟩ := ob he; cases he; exact ((ev_call0 (g := (plan, place)) (ea_cons (ev_var (S := (rLst rInt).s K plan) rfl (Sv.mono _ eB (Sv.mono _ x12 (Sv.mono _ x4 (Sv.mono _ x1 z0))))) (ea_cons (ev_var (S := rInt.s K place) rfl hx) ea_nil)) (al_p (fun _ z => z) (al_p (fun _ z => z) al_nil)) e17).le g_s))).le sn_s) (fun v_21 B20 H20 x20 w20 h22 => ?_)
        try dsimp only
        refine s_if w20 (et_test (ev_inM dqOptI (ev_nonO (R := rInt)) (ev_var (S := (rLst (rOpt rInt)).s K ys18) rfl h22) src_p)) (fun hb B23 H23 x23 w23 => ?_) (fun hb B23 H23 x23 w23 => ?_)
        · have hm := it hb hm
          obtain ⟨t24, e25, hm⟩ := ob hm
          refine s_raise w23 (ea_cons (ev_indexD dqOptI (ev_var (S := (rLst (rOpt rInt)).s K ys18) rfl (Sv.mono _ x23 h22)) (ev_nonO (R := rInt)) src_p src_p e25) ea_nil) (fun cls d B26 H26 x26 w26 hx => ?_)
          cases hm
          exact k cls d _ _ w26.st w26.ex hx
        · have hm := ie hb hm
          obtain ⟨t27, e28, hm⟩ := ob hm
          refine s_ret w23 ((ev_var (S := (rLst (rOpt rInt)).s K ys18) rfl (Sv.mono _ x23 h22)).le (c_lst (fun _ _ h_ => (c_opt _ _ h_)) e28)) (fun vv B29 H29 x29 w29 hv => ?_)
          cases hm
          exact k _ _ _ w29.st w29.ex hv
def m_shut_in : (List Int) → Option (Except Xc (List Int)) := fun plan =>
  (m_plan_ends plan).bind fun rx => match rx with
  | .error xe => some (.error xe)
  | .ok r1 => ((lcO (fun (pr : Int × Int) (rr : Unit) => match rr with | () => some ((!decide (pr.2 = pr.1)), ())) (fun (pr : Int × Int) (rr : Unit) => match rr with | () => some (pr.1, ())) (enumL plan) ()).bind fun (ys4, _) =>
  some (.ok ys4))
def p_shut_in (K : Fg) : Sp := PrX K (He.ga K) (fun (g : (List Int)) => [(rLst rInt).s K g]) m_shut_in (rLst rInt)
abbrev N_shut_in : List Str := ["plan", "place", "entry"]
theorem sc_shut_in : FnScope N_shut_in ["plan"] (defScope s_shut_in) := ⟨rfl, rfl, rfl, by decide +kernel, rfl, by decide +kernel, by decide +kernel⟩
theorem ok_shut_in {P : Program} {w : World} {K : Fg} {mg : Str → Option Value} {base : Heap} (T : Tx P K mg) {fd : FuncData} (F : FnP K "shut_in" s_shut_in (He.ga K "shut_in") fd) : FnOk P w K mg base (L2.CX P w) 3 (He.ga K "shut_in") fd ["plan"] (p_shut_in K) := by
  obtain ⟨fd_plan_ends, F_plan_ends⟩ := T.f_plan_ends
  have G_plan_ends : FnOk P w K mg base (L2.CX P w) 2 (He.ga K "plan_ends") fd_plan_ends ["plan"] (p_plan_ends K) := ok_plan_ends T F_plan_ends
  have b_plan_ends : Binds K fd_plan_ends ["plan"] [] := F_plan_ends.bindsN fun _ _ _ _ _ _ us hl => match us, hl with | [_], _ => rfl
  have sc := sc_shut_in
  refine F.ok sc (fun vs H Q E h => ?_) (fun cdv A outer s H vs Q E hr h => ?_)
  · obtain ⟨g, z, B, ss, _⟩ := h
    exact (Paired.length ss).trans rfl
  · obtain ⟨plan, z, B, ss, ex, hm, k⟩ := h
    obtain ⟨v0, rfl, z0⟩ := pn1 ss
    have tk := takes_of (X := cxOf (L2.CX P w) P w K mg base N_shut_in "shut_in" (defScope s_shut_in) (He.ga K "shut_in") cdv A outer s H E) rfl rfl rfl rfl
    refine ⟨_, (pss_cons (ps_expr (pe_call G_plan_ends (hr.mono (by decide)) (by rfl) T.m_plan_ends F_plan_ends.kp b_plan_ends .nil (passes_call tk fun _ _ _ _ h => h) (pa_cons (pv 0) pa_nil))) (pss_one (ps_ret (pe_lc (own := [("place", 1), ("entry", 2)]) (g := (gTup K 2 (gCons (gName 1) (gCons (gName 2) gNil)))) (by rfl) sc.nd (pi_enum (by rfl) T.b_enumerate (pa_cons (pv 0) pa_nil)) (blkOk_by (own := [("place", 1), ("entry", 2)]) (N := N_shut_in) (sc := defScope s_shut_in) (by decide +kernel)) (fun _ _ _ _ _ => pgt (K := K) rfl rfl (pgs_cons (pg_name (i := 1) sc.nd rfl (Or.inl rfl)) (pgs_cons (pg_name (i := 2) sc.nd rfl (Or.inl rfl)) pgs_nil))) (fun _ _ _ _ _ => pts_one (pt_cmpR op_ne (pv 2) (pv 1) (nomark _))) (fun _ _ _ _ _ => (pv 1)))))), ?_⟩
    have w := Wd.start (K := K) ex
    unfold m_shut_in at hm
    obtain ⟨r1, e2, hm⟩ := ob hm
    cases r1 with
    | error r1 =>
      refine callXa w (ea_cons (ev_var (S := (rLst rInt).s K plan) rfl z0) ea_nil) (al_p (fun _ z => absurd z List.not_mem_nil) al_nil) e2 (fun cls d B3 H3 x3 w3 hx => ?_)
      cases hm
      exact k cls d _ _ w3.st w3.ex hx
    | ok r1 =>
      refine s_drop w (ev_callXaok (g := plan) (ea_cons (ev_var (S := (rLst rInt).s K plan) rfl z0) ea_nil) (al_p (fun _ z => absurd z List.not_mem_nil) al_nil) e2) (fun B3 H3 x3 w3 => ?_)
      try dsimp only
      obtain ⟨⟨ys4, _⟩, e5, hm⟩ := ob hm
      try dsimp only at hm
      refine s_ret w3 (ev_lc (R := (rT2 rInt rInt)) (R' := rInt) (oo := (fun (rr : Unit) => [])) (fun (pr : Int × Int) (rr : Unit) => match rr with | () => some ((!decide (pr.2 = pr.1)), ())) (fun (pr : Int × Int) (rr : Unit) => match rr with | () => some (pr.1, ())) (lcT2 rInt rInt K _ 1 2 [1, 2]) (ei_enum (ev_var (S := (rLst rInt).s K plan) rfl (Sv.mono _ x3 z0)) lp_s) e5 (lcT2_mono _ _ _ _ _ _ _) (lcT2_name rfl 1 2 [1, 2] (by intro x y; rfl)) (fun pr rr bb r1 σ2 B' pD acc ht eB ⟨va, vb, hσ, hxa, hxb⟩ => by subst hσ; cases ht; exact (et_test (ev_neI (ev_var (S := rInt.s K pr.2) rfl hxb) (ev_var (S := rInt.s K pr.1) rfl hxa)))) (fun pr rr yy r1 σ2 B' pD acc he eB ⟨va, vb, hσ, hxa, hxb⟩ => by subst hσ; cases he; exact (ev_var (S := rInt.s K pr.1) rfl hxa))) (fun vv B6 H6 x6 w6 hv => ?_)
      cases hm
      exact k _ _ _ w6.st w6.ex (r_n w3 (imm_flat _) hv)
def m_plan_price : (List (List Int)) × (List Int) → Option (Except Xc Int) := fun (tolls, plan) =>
  (m_check_tolls tolls).bind fun rx => match rx with
  | .error xe => some (.error xe)
  | .ok r1 => ((m_shut_in plan).bind fun rx => match rx with
  | .error xe => some (.error xe)
  | .ok r4 => (cond (!decide ((plan.length : Int) = (tolls.length : Int))) (some (.error (.one "BadSize" "size" (plan.length : Int)))) ((lcO (fun (place : Int) (rr : Unit) => match rr with | () => some (true, ())) (fun (place : Int) (rr : Unit) => match rr with | () => (atI tolls place).bind fun t11 => (atI plan place).bind fun t13 => (atI t11 t13).bind fun t15 => some (t15, ())) r4 ()).bind fun (ys17, _) =>
  some (.ok ys17.sum))))
def p_plan_price (K : Fg) : Sp := PrX K (He.ga K) (fun (g : (List (List Int)) × (List Int)) => [(rLst (rLst rInt)).s K g.1, (rLst rInt).s K g.2]) m_plan_price rInt
abbrev N_plan_price : List Str := ["tolls", "plan", "shut", "place"]
theorem sc_plan_price : FnScope N_plan_price ["tolls", "plan"] (defScope s_plan_price) := ⟨rfl, rfl, rfl, by decide +kernel, rfl, by decide +kernel, by decide +kernel⟩
theorem ok_plan_price {P : Program} {w : World} {K : Fg} {mg : Str → Option Value} {base : Heap} (T : Tx P K mg) {fd : FuncData} (F : FnP K "plan_price" s_plan_price (He.ga K "plan_price") fd) : FnOk P w K mg base (L2.CX P w) 4 (He.ga K "plan_price") fd ["tolls", "plan"] (p_plan_price K) := by
  obtain ⟨fI_BadSize, fd_BadSize, a1_BadSize, low_BadSize⟩ := T.BadSize.lo
  obtain ⟨fd_check_tolls, F_check_tolls⟩ := T.f_check_tolls
  have G_check_tolls : FnOk P w K mg base (L2.CX P w) 3 (He.ga K "check_tolls") fd_check_tolls ["tolls"] (p_check_tolls K) := ok_check_tolls T F_check_tolls
  have b_check_tolls : Binds K fd_check_tolls ["tolls"] [] := F_check_tolls.bindsN fun _ _ _ _ _ _ us hl => match us, hl with | [_], _ => rfl
  obtain ⟨fd_shut_in, F_shut_in⟩ := T.f_shut_in
  have G_shut_in : FnOk P w K mg base (L2.CX P w) 3 (He.ga K "shut_in") fd_shut_in ["plan"] (p_shut_in K) := ok_shut_in T F_shut_in
  have b_shut_in : Binds K fd_shut_in ["plan"] [] := F_shut_in.bindsN fun _ _ _ _ _ _ us hl => match us, hl with | [_], _ => rfl
  have sc := sc_plan_price
  refine F.ok sc (fun vs H Q E h => ?_) (fun cdv A outer s H vs Q E hr h => ?_)
  · obtain ⟨g, z, B, ss, _⟩ := h
    exact (Paired.length ss).trans rfl
  · obtain ⟨⟨tolls, plan⟩, z, B, ss, ex, hm, k⟩ := h
    obtain ⟨v0, v1, rfl, z0, z1⟩ := pn2 ss
    have hr1 : Room 1 _ := hr.mono (by decide)
    have tk := takes_of (X := cxOf (L2.CX P w) P w K mg base N_plan_price "plan_price" (defScope s_plan_price) (He.ga K "plan_price") cdv A outer s H E) rfl rfl rfl rfl
    refine ⟨_, (pss_cons (ps_expr (pe_call G_check_tolls (hr.mono (by decide)) (by rfl) T.m_check_tolls F_check_tolls.kp b_check_tolls .nil (passes_call tk fun _ _ _ _ h => h) (pa_cons (pv 0) pa_nil))) (pss_cons (ps_set (i := 2) sc.nd rfl (Or.inl rfl) (pe_call G_shut_in (hr.mono (by decide)) (by rfl) T.m_shut_in F_shut_in.kp b_shut_in .nil (passes_call tk fun _ _ _ _ h => h) (pa_cons (pv 1) pa_nil))) (pss_cons (ps_if (pt_cmpR op_ne (pe_callB (clen (K := K) rfl) (by rfl) T.b_len (by decide +kernel) (pa_cons (pv 1) pa_nil)) (pe_callB (clen (K := K) rfl) (by rfl) T.b_len (by decide +kernel) (pa_cons (pv 0) pa_nil)) (nomark _)) (pss_one (ps_raise rfl tk (Xi.pmk_low low_BadSize hr1 (by rfl) T.BadSize.gl (pa_cons (pe_callB (clen (K := K) rfl) (by rfl) T.b_len (by decide +kernel) (pa_cons (pv 1) pa_nil)) pa_nil)))) pss_nil) (pss_one (ps_ret (pe_callB (csum (K := K) rfl rfl) (by rfl) T.b_sum (by decide +kernel) (pa_cons (pe_lc (own := [("place", 3)]) (g := (gName 3)) (by rfl) sc.nd (pi_list (pv 2)) (blkOk_by (own := [("place", 3)]) (N := N_plan_price) (sc := defScope s_plan_price) (by decide +kernel)) (fun _ _ _ _ _ => pg_name (i := 3) sc.nd rfl (Or.inl rfl)) (fun _ _ _ _ _ => pts_nil) (fun _ _ _ _ _ => (pe_ix (ixl (K := K) rfl) (pe_ix (ixl (K := K) rfl) (pv 0) (pv 3) (fun _ _ => rfl)) (pe_ix (ixl (K := K) rfl) (pv 1) (pv 3) (fun _ _ => rfl)) (fun _ _ => rfl)))) pa_nil))))))), ?_⟩
    have w := Wd.start (K := K) ex
    unfold m_plan_price at hm
    obtain ⟨r1, e2, hm⟩ := ob hm
    cases r1 with
    | error r1 =>
      refine callX w (ea_cons (ev_var (S := (rLst (rLst rInt)).s K tolls) rfl z0) ea_nil) (al_p (fun _ z => z) al_nil) e2 (fun cls d B3 H3 x3 w3 hx => ?_)
      cases hm
      exact k cls d _ _ w3.st w3.ex hx
    | ok r1 =>
      refine s_drop w (ev_callXok (g := tolls) (ea_cons (ev_var (S := (rLst (rLst rInt)).s K tolls) rfl z0) ea_nil) (al_p (fun _ z => z) al_nil) e2) (fun B3 H3 x3 w3 => ?_)
      try dsimp only
      obtain ⟨r4, e5, hm⟩ := ob hm
      cases r4 with
      | error r4 =>
        refine callX w3 (ea_cons (ev_var (S := (rLst rInt).s K plan) rfl (Sv.mono _ x3 z1)) ea_nil) (al_p (fun _ z => z) al_nil) e5 (fun cls d B6 H6 x6 w6 hx => ?_)
        cases hm
        exact k cls d _ _ w6.st w6.ex hx
      | ok r4 =>
        refine s_asg w3 ((ev_callXok (g := plan) (ea_cons (ev_var (S := (rLst rInt).s K plan) rfl (Sv.mono _ x3 z1)) ea_nil) (al_p (fun _ z => z) al_nil) e5).le g_s) (fun v_7 B6 H6 x6 w6 h8 => ?_)
        try dsimp only
        try dsimp only
        refine s_if w6 (et_test (ev_neI (ev_len (ev_var (S := (rLst rInt).s K plan) rfl (Sv.mono _ x6 (Sv.mono _ x3 z1))) src_p) (ev_len (ev_var (S := (rLst (rLst rInt)).s K tolls) rfl (Sv.mono _ x6 (Sv.mono _ x3 z0))) src_p))) (fun hb B9 H9 x9 w9 => ?_) (fun hb B9 H9 x9 w9 => ?_)
        · have hm := it hb hm
          refine s_raise w9 (ea_cons (ev_len (ev_var (S := (rLst rInt).s K plan) rfl (Sv.mono _ x9 (Sv.mono _ x6 (Sv.mono _ x3 z1)))) src_p) ea_nil) (fun cls d B10 H10 x10 w10 hx => ?_)
          cases hm
          exact k cls d _ _ w10.st w10.ex hx
        · have hm := ie hb hm
          obtain ⟨⟨ys17, _⟩, e18, hm⟩ := ob hm
          try dsimp only at hm
          refine s_ret w9 (ev_sum (ev_lc (R := rInt) (R' := rInt) (oo := (fun (rr : Unit) => [])) (fun (place : Int) (rr : Unit) => match rr with | () => some (true, ())) (fun (place : Int) (rr : Unit) => match rr with | () => (atI tolls place).bind fun t11 => (atI plan place).bind fun t13 => (atI t11 t13).bind fun t15 => some (t15, ())) (lcT rInt K _ 3 [3]) (ei_list (ev_var (S := (rLst rInt).s K r4) rfl (Sv.mono _ x9 h8))) e18 (lcT_mono _ _ _ _ _) (lcT_name rfl 3 [3] (by intro x; rfl)) (fun place rr bb r1 σ2 B' pD acc ht eB ⟨vx, hσ, hx⟩ => by cases ht; exact et_yes) (fun place rr yy r1 σ2 B' pD acc he eB ⟨vx, hσ, hx⟩ => by subst hσ; obtain ⟨t11, e12, he⟩ := ob he; obtain ⟨t13, e14, he⟩ := ob he; obtain ⟨t15, e16, he⟩ := ob he; cases he; exact (ev_ix (ev_ix (ev_var (S := (rLst (rLst rInt)).s K tolls) rfl (Sv.mono _ eB (Sv.mono _ x9 (Sv.mono _ x6 (Sv.mono _ x3 z0))))) (ev_var (S := rInt.s K place) rfl hx) src_p e12) (ev_ix (ev_var (S := (rLst rInt).s K plan) rfl (Sv.mono _ eB (Sv.mono _ x9 (Sv.mono _ x6 (Sv.mono _ x3 z1))))) (ev_var (S := rInt.s K place) rfl hx) src_p e14) src_p e16))) src_n) (fun vv B19 H19 x19 w19 hv => ?_)
          cases hm
          exact k _ _ _ w19.st w19.ex ((imm_flat _) _ _ _ _ _ hv)
def m__law_draw : (List Int) × Int → Option (Int × (List Int)) := fun (state, many) =>
  (atI state (0 : Int)).bind fun t1 =>
  cond (decide ((0 : Int) < t1)) ((atI state (0 : Int)).bind fun t4 =>
  (modO t4 many).bind fun t6 =>
  (atI state (0 : Int)).bind fun t11 =>
  (divO t11 many).bind fun t13 =>
  (setO state (0 : Int) t13).bind fun state15 =>
  some (t6, state15)) ((atI state (2 : Int)).bind fun t19 =>
  (setO state (2 : Int) (t19 + (1 : Int))).bind fun state21 =>
  (atI state21 (1 : Int)).bind fun t24 =>
  (mulO t24 (48271 : Int)).bind fun t26 =>
  (atI state21 (2 : Int)).bind fun t28 =>
  (mulO t28 (69621 : Int)).bind fun t30 =>
  (modO ((t26 + t30) + (11 : Int)) (2147483647 : Int)).bind fun t32 =>
  (mulO t32 t32).bind fun t37 =>
  (atI state21 (2 : Int)).bind fun t39 =>
  (mulO t39 (40692 : Int)).bind fun t41 =>
  (modO ((t37 + t41) + (7 : Int)) (2147483399 : Int)).bind fun t43 =>
  (mulO t43 t43).bind fun t48 =>
  (modO (t48 + t32) (2147483563 : Int)).bind fun t50 =>
  (divO t50 (8 : Int)).bind fun t55 =>
  (modO t55 many).bind fun t57 =>
  some (t57, state21))
def p__law_draw (K : Fg) : Sp := Pr1 K (fun (g : (List Int) × Int) p => [SA p, rInt.s K g.2]) (fun g => CL rInt K g.1) m__law_draw (fun e => CL rInt K e) rInt
abbrev N__law_draw : List Str := ["state", "many", "digit", "one", "two", "three"]
theorem sc__law_draw : FnScope N__law_draw ["state", "many"] (defScope s__law_draw) := ⟨rfl, rfl, rfl, by decide +kernel, rfl, by decide +kernel, by decide +kernel⟩
theorem ok__law_draw {P : Program} {w : World} {K : Fg} {mg : Str → Option Value} {base : Heap} (T : Tx P K mg) {fd : FuncData} (F : FnP K "_law_draw" s__law_draw (He.ga K "_law_draw") fd) : FnOk P w K mg base (L2.CX P w) 1 (He.ga K "_law_draw") fd ["state", "many"] (p__law_draw K) := by
  have sc := sc__law_draw
  refine F.ok sc (fun vs H Q E h => ?_) (fun cdv A outer s H vs Q E hr h => ?_)
  · obtain ⟨g, p, z, B, o, ss, _⟩ := h
    exact (Paired.length ss).trans rfl
  · obtain ⟨⟨state, many⟩, p0, z, B, o, ss, ex, h1, h2, h3, h4, hm, k⟩ := h
    obtain ⟨v0, v1, rfl, z0, z1⟩ := pn2 ss
    cases (show _ = V.ref p0 from z0)
    refine ⟨_, (pss_cons (ps_if (pt_cmpR op_gt (pe_ix (ixl (K := K) rfl) (pv 0) pe_int (fun _ _ => rfl)) pe_int (nomark _)) (pss_cons (ps_set (i := 2) sc.nd rfl (Or.inl rfl) (pe_op op_modN (pe_callTy call_int1 (by rfl) T.b_int (by decide +kernel) (pa_cons (pe_ix (ixl (K := K) rfl) (pv 0) pe_int (fun _ _ => rfl)) pa_nil)) (pv 1))) (pss_cons (ps_asg (pe_op op_fdivN (pe_ix (ixl (K := K) rfl) (pv 0) pe_int (fun _ _ => rfl)) (pv 1)) (pg_sub (pv 0) pe_int set_list)) (pss_one (ps_ret (pv 2))))) pss_nil) (pss_cons (ps_asg (pe_op op_add (pe_ix (ixl (K := K) rfl) (pv 0) pe_int (fun _ _ => rfl)) pe_int) (pg_sub (pv 0) pe_int set_list)) (pss_cons (ps_set (i := 3) sc.nd rfl (Or.inl rfl) (pe_op op_modN (pe_callTy call_int1 (by rfl) T.b_int (by decide +kernel) (pa_cons (pe_op op_add (pe_op op_add (pe_op op_mul (pe_ix (ixl (K := K) rfl) (pv 0) pe_int (fun _ _ => rfl)) pe_int) (pe_op op_mul (pe_ix (ixl (K := K) rfl) (pv 0) pe_int (fun _ _ => rfl)) pe_int)) pe_int) pa_nil)) pe_int)) (pss_cons (ps_set (i := 4) sc.nd rfl (Or.inl rfl) (pe_op op_modN (pe_callTy call_int1 (by rfl) T.b_int (by decide +kernel) (pa_cons (pe_op op_add (pe_op op_add (pe_op op_mul (pv 3) (pv 3)) (pe_op op_mul (pe_ix (ixl (K := K) rfl) (pv 0) pe_int (fun _ _ => rfl)) pe_int)) pe_int) pa_nil)) pe_int)) (pss_cons (ps_set (i := 5) sc.nd rfl (Or.inl rfl) (pe_op op_modN (pe_callTy call_int1 (by rfl) T.b_int (by decide +kernel) (pa_cons (pe_op op_add (pe_op op_mul (pv 4) (pv 4)) (pv 3)) pa_nil)) pe_int)) (pss_one (ps_ret (pe_op op_modN (pe_callTy call_int1 (by rfl) T.b_int (by decide +kernel) (pa_cons (pe_op op_fdivN (pv 5) pe_int) pa_nil)) (pv 1))))))))), ?_⟩
    have w := Wd.start1 (K := K) ex h1 h2 h3 h4
    unfold m__law_draw at hm
    obtain ⟨t1, e2, hm⟩ := ob hm
    try dsimp only
    refine s_if w (et_test (ev_gt (ev_ix (ev_var (S := SA p0) rfl rfl) ev_int (src_o (R := rInt) (xs := state) 0 rfl rfl) e2) ev_int)) (fun hb B3 H3 x3 w3 => ?_) (fun hb B3 H3 x3 w3 => ?_)
    · have hm := it hb hm
      obtain ⟨t4, e5, hm⟩ := ob hm
      obtain ⟨t6, e7, hm⟩ := ob hm
      refine s_asg w3 (ev_mod (ev_int1 (ev_ix (ev_var (S := SA p0) rfl rfl) ev_int (src_o (R := rInt) (xs := state) 0 rfl rfl) e5)) (ev_var (S := rInt.s K many) rfl (Sv.mono _ x3 z1)) e7) (fun v_9 B8 H8 x8 w8 h10 => ?_)
      obtain ⟨t11, e12, hm⟩ := ob hm
      obtain ⟨t13, e14, hm⟩ := ob hm
      obtain ⟨state15, e16, hm⟩ := ob hm
      refine s_set 0 rfl w8 (ev_div (ev_ix (ev_var (S := SA p0) rfl rfl) ev_int (src_o (R := rInt) (xs := state) 0 rfl rfl) e12) (ev_var (S := rInt.s K many) rfl (Sv.mono _ x8 (Sv.mono _ x3 z1))) e14) (ev_var (S := SA p0) rfl rfl) ev_int rfl e16 (fun B17 H17 x17 w17 => ?_)
      refine s_ret w17 (ev_var (S := rInt.s K t6) rfl (Sv.mono _ x17 h10)) (fun vv B18 H18 x18 w18 hv => ?_)
      cases hm
      obtain ⟨oz, gz1, _, gz3, gz4⟩ := w18.cell.get (i := 0) rfl rfl
      exact k _ _ _ oz w18.st w18.ex gz1 gz3 gz4 ((imm_flat _) _ _ _ _ _ hv)
    · have hm := ie hb hm
      obtain ⟨t19, e20, hm⟩ := ob hm
      obtain ⟨state21, e22, hm⟩ := ob hm
      refine s_set 0 rfl w3 (ev_add (ev_ix (ev_var (S := SA p0) rfl rfl) ev_int (src_o (R := rInt) (xs := state) 0 rfl rfl) e20) ev_int) (ev_var (S := SA p0) rfl rfl) ev_int rfl e22 (fun B23 H23 x23 w23 => ?_)
      obtain ⟨t24, e25, hm⟩ := ob hm
      obtain ⟨t26, e27, hm⟩ := ob hm
      obtain ⟨t28, e29, hm⟩ := ob hm
      obtain ⟨t30, e31, hm⟩ := ob hm
      obtain ⟨t32, e33, hm⟩ := ob hm
      refine s_asg w23 (ev_mod (ev_int1 (ev_add (ev_add (ev_mul (ev_ix (ev_var (S := SA p0) rfl rfl) ev_int (src_o (R := rInt) (xs := state21) 0 rfl rfl) e25) ev_int e27) (ev_mul (ev_ix (ev_var (S := SA p0) rfl rfl) ev_int (src_o (R := rInt) (xs := state21) 0 rfl rfl) e29) ev_int e31)) ev_int)) ev_int e33) (fun v_35 B34 H34 x34 w34 h36 => ?_)
      obtain ⟨t37, e38, hm⟩ := ob hm
      obtain ⟨t39, e40, hm⟩ := ob hm
      obtain ⟨t41, e42, hm⟩ := ob hm
      obtain ⟨t43, e44, hm⟩ := ob hm
      refine s_asg w34 (ev_mod (ev_int1 (ev_add (ev_add (ev_mul (ev_var (S := rInt.s K t32) rfl h36) (ev_var (S := rInt.s K t32) rfl h36) e38) (ev_mul (ev_ix (ev_var (S := SA p0) rfl rfl) ev_int (src_o (R := rInt) (xs := state21) 0 rfl rfl) e40) ev_int e42)) ev_int)) ev_int e44) (fun v_46 B45 H45 x45 w45 h47 => ?_)
      obtain ⟨t48, e49, hm⟩ := ob hm
      obtain ⟨t50, e51, hm⟩ := ob hm
      refine s_asg w45 (ev_mod (ev_int1 (ev_add (ev_mul (ev_var (S := rInt.s K t43) rfl h47) (ev_var (S := rInt.s K t43) rfl h47) e49) (ev_var (S := rInt.s K t32) rfl (Sv.mono _ x45 h36)))) ev_int e51) (fun v_53 B52 H52 x52 w52 h54 => ?_)
      obtain ⟨t55, e56, hm⟩ := ob hm
      obtain ⟨t57, e58, hm⟩ := ob hm
      refine s_ret w52 (ev_mod (ev_int1 (ev_div (ev_var (S := rInt.s K t50) rfl h54) ev_int e56)) (ev_var (S := rInt.s K many) rfl (Sv.mono _ x52 (Sv.mono _ x45 (Sv.mono _ x34 (Sv.mono _ x23 (Sv.mono _ x3 z1)))))) e58) (fun vv B59 H59 x59 w59 hv => ?_)
      cases hm
      obtain ⟨oz, gz1, _, gz3, gz4⟩ := w59.cell.get (i := 0) rfl rfl
      exact k _ _ _ oz w59.st w59.ex gz1 gz3 gz4 ((imm_flat _) _ _ _ _ _ hv)
def m__law_size : (List Int) × Int × Int → Option (Int × (List Int)) := fun (state, most, more) =>
  (m__law_draw (state, (8 : Int))).bind fun (r1, state3) =>
  cond (decide (r1 = (0 : Int))) ((m__law_draw (state3, more)).bind fun (r5, state7) =>
  some (((1 : Int) + r5), state7)) ((m__law_draw (state3, most)).bind fun (r9, state11) =>
  some (((1 : Int) + r9), state11))
def p__law_size (K : Fg) : Sp := Pr1 K (fun (g : (List Int) × Int × Int) p => [SA p, rInt.s K g.2.1, rInt.s K g.2.2]) (fun g => CL rInt K g.1) m__law_size (fun e => CL rInt K e) rInt
abbrev N__law_size : List Str := ["state", "most", "more"]
theorem sc__law_size : FnScope N__law_size ["state", "most", "more"] (defScope s__law_size) := ⟨rfl, rfl, rfl, by decide +kernel, rfl, by decide +kernel, by decide +kernel⟩
theorem ok__law_size {P : Program} {w : World} {K : Fg} {mg : Str → Option Value} {base : Heap} (T : Tx P K mg) {fd : FuncData} (F : FnP K "_law_size" s__law_size (He.ga K "_law_size") fd) : FnOk P w K mg base (L2.CX P w) 2 (He.ga K "_law_size") fd ["state", "most", "more"] (p__law_size K) := by
  obtain ⟨fd__law_draw, F__law_draw⟩ := T.f__law_draw
  have G__law_draw : FnOk P w K mg base (L2.CX P w) 1 (He.ga K "_law_draw") fd__law_draw ["state", "many"] (p__law_draw K) := ok__law_draw T F__law_draw
  have b__law_draw : Binds K fd__law_draw ["state", "many"] [] := F__law_draw.bindsN fun _ _ _ _ _ _ us hl => match us, hl with | [_, _], _ => rfl
  have sc := sc__law_size
  refine F.ok sc (fun vs H Q E h => ?_) (fun cdv A outer s H vs Q E hr h => ?_)
  · obtain ⟨g, p, z, B, o, ss, _⟩ := h
    exact (Paired.length ss).trans rfl
  · obtain ⟨⟨state, most, more⟩, p0, z, B, o, ss, ex, h1, h2, h3, h4, hm, k⟩ := h
    obtain ⟨v0, v1, v2, rfl, z0, z1, z2⟩ := pn3 ss
    cases (show _ = V.ref p0 from z0)
    refine ⟨_, (pss_cons (ps_if (pt_cmpR op_eq (pe_call G__law_draw (hr.mono (by decide)) (by rfl) T.m__law_draw F__law_draw.kp b__law_draw .nil passL (pa_cons (pv 0) (pa_cons pe_int pa_nil))) pe_int (nomark _)) (pss_one (ps_ret (pe_op op_add pe_int (pe_call G__law_draw (hr.mono (by decide)) (by rfl) T.m__law_draw F__law_draw.kp b__law_draw .nil passL (pa_cons (pv 0) (pa_cons (pv 2) pa_nil)))))) pss_nil) (pss_one (ps_ret (pe_op op_add pe_int (pe_call G__law_draw (hr.mono (by decide)) (by rfl) T.m__law_draw F__law_draw.kp b__law_draw .nil passL (pa_cons (pv 0) (pa_cons (pv 1) pa_nil))))))), ?_⟩
    have w := Wd.start1 (K := K) ex h1 h2 h3 h4
    unfold m__law_size at hm
    obtain ⟨⟨r1, state3⟩, e2, hm⟩ := ob hm
    try dsimp only at hm
    try dsimp only
    refine s_if w (et_test (ev_eqI ((ev_call1 (g := (state, (8 : Int))) 0 rfl (ea_cons (ev_var (S := SA p0) rfl rfl) (ea_cons ev_int ea_nil)) rfl (al_p (fun a z => List.mem_of_mem_eraseIdx z) (al_p (fun a z => List.mem_of_mem_eraseIdx z) al_nil)) e2 (csi (imm_flat _))).le g_s) ev_int)) (fun hb B4 H4 x4 w4 => ?_) (fun hb B4 H4 x4 w4 => ?_)
    · have hm := it hb hm
      obtain ⟨⟨r5, state7⟩, e6, hm⟩ := ob hm
      try dsimp only at hm
      refine s_ret w4 (ev_add ev_int ((ev_call1 (g := (state3, more)) 0 rfl (ea_cons (ev_var (S := SA p0) rfl rfl) (ea_cons (ev_var (S := rInt.s K more) rfl (Sv.mono _ x4 z2)) ea_nil)) rfl (al_p (fun a z => List.mem_of_mem_eraseIdx z) (al_p (fun a z => List.mem_of_mem_eraseIdx z) al_nil)) e6 (csi (imm_flat _))).le g_s)) (fun vv B8 H8 x8 w8 hv => ?_)
      cases hm
      obtain ⟨oz, gz1, _, gz3, gz4⟩ := w8.cell.get (i := 0) rfl rfl
      exact k _ _ _ oz w8.st w8.ex gz1 gz3 gz4 ((imm_flat _) _ _ _ _ _ hv)
    · have hm := ie hb hm
      obtain ⟨⟨r9, state11⟩, e10, hm⟩ := ob hm
      try dsimp only at hm
      refine s_ret w4 (ev_add ev_int ((ev_call1 (g := (state3, most)) 0 rfl (ea_cons (ev_var (S := SA p0) rfl rfl) (ea_cons (ev_var (S := rInt.s K most) rfl (Sv.mono _ x4 z1)) ea_nil)) rfl (al_p (fun a z => List.mem_of_mem_eraseIdx z) (al_p (fun a z => List.mem_of_mem_eraseIdx z) al_nil)) e10 (csi (imm_flat _))).le g_s)) (fun vv B12 H12 x12 w12 hv => ?_)
      cases hm
      obtain ⟨oz, gz1, _, gz3, gz4⟩ := w12.cell.get (i := 0) rfl rfl
      exact k _ _ _ oz w12.st w12.ex gz1 gz3 gz4 ((imm_flat _) _ _ _ _ _ hv)
def m__law_set : (List Int) × Int → Option ((List Int) × (List Int)) := fun (state, size) =>
  (rngO (0 : Int) size).bind fun xs1 =>
  (lcO (fun (place : Int) (rr : (List Int)) => match rr with | state => (m__law_draw (state, (2 : Int))).bind fun (r3, state5) => some ((decide (r3 = (1 : Int))), state5)) (fun (place : Int) (rr : (List Int)) => match rr with | state5 => some (place, state5)) xs1 state).bind fun (ys6, state8) =>
  some (ys6, state8)
def p__law_set (K : Fg) : Sp := Pr1 K (fun (g : (List Int) × Int) p => [SA p, rInt.s K g.2]) (fun g => CL rInt K g.1) m__law_set (fun e => CL rInt K e) (rLst rInt)
abbrev N__law_set : List Str := ["state", "size", "place"]
theorem sc__law_set : FnScope N__law_set ["state", "size"] (defScope s__law_set) := ⟨rfl, rfl, rfl, by decide +kernel, rfl, by decide +kernel, by decide +kernel⟩
theorem ok__law_set {P : Program} {w : World} {K : Fg} {mg : Str → Option Value} {base : Heap} (T : Tx P K mg) {fd : FuncData} (F : FnP K "_law_set" s__law_set (He.ga K "_law_set") fd) : FnOk P w K mg base (L2.CX P w) 2 (He.ga K "_law_set") fd ["state", "size"] (p__law_set K) := by
  obtain ⟨fd__law_draw, F__law_draw⟩ := T.f__law_draw
  have G__law_draw : FnOk P w K mg base (L2.CX P w) 1 (He.ga K "_law_draw") fd__law_draw ["state", "many"] (p__law_draw K) := ok__law_draw T F__law_draw
  have b__law_draw : Binds K fd__law_draw ["state", "many"] [] := F__law_draw.bindsN fun _ _ _ _ _ _ us hl => match us, hl with | [_, _], _ => rfl
  have sc := sc__law_set
  refine F.ok sc (fun vs H Q E h => ?_) (fun cdv A outer s H vs Q E hr h => ?_)
  · obtain ⟨g, p, z, B, o, ss, _⟩ := h
    exact (Paired.length ss).trans rfl
  · obtain ⟨⟨state, size⟩, p0, z, B, o, ss, ex, h1, h2, h3, h4, hm, k⟩ := h
    obtain ⟨v0, v1, rfl, z0, z1⟩ := pn2 ss
    cases (show _ = V.ref p0 from z0)
    refine ⟨_, (pss_one (ps_ret (pe_lc (own := [("place", 2)]) (g := (gName 2)) (by rfl) sc.nd (pi_range1 (by rfl) T.b_range (pa_cons (pv 1) pa_nil)) (blkOk_by (own := [("place", 2)]) (N := N__law_set) (sc := defScope s__law_set) (by decide +kernel)) (fun _ _ _ _ _ => pg_name (i := 2) sc.nd rfl (Or.inl rfl)) (fun _ _ _ _ _ => pts_one (pt_cmpR op_eq (pe_call G__law_draw (hr.mono (by decide)) (by rfl) T.m__law_draw F__law_draw.kp b__law_draw .nil passL (pa_cons (pv 0) (pa_cons pe_int pa_nil))) pe_int (nomark _))) (fun _ _ _ _ _ => (pv 2))))), ?_⟩
    have w := Wd.start1 (K := K) ex h1 h2 h3 h4
    unfold m__law_set at hm
    obtain ⟨xs1, e2, hm⟩ := ob hm
    obtain ⟨⟨ys6, state8⟩, e7, hm⟩ := ob hm
    try dsimp only at hm
    refine s_ret w (ev_lc (R := rInt) (R' := rInt) (oo := (fun (rr : (List Int)) => [CL rInt K rr])) (fun (place : Int) (rr : (List Int)) => match rr with | state => (m__law_draw (state, (2 : Int))).bind fun (r3, state5) => some ((decide (r3 = (1 : Int))), state5)) (fun (place : Int) (rr : (List Int)) => match rr with | state5 => some (place, state5)) (lcT rInt K _ 2 [2]) (ei_r1 (ev_var (S := rInt.s K size) rfl z1) e2) e7 (lcT_mono _ _ _ _ _) (lcT_name rfl 2 [2] (by intro x; rfl)) (fun place state bb r1 σ2 B' pD acc ht eB ⟨vx, hσ, hx⟩ => by subst hσ; obtain ⟨⟨r3, state5⟩, e4, ht⟩ := ob ht; try dsimp only at ht; cases ht; exact (et_test (ev_eqI ((ev_call1 (g := (state, (2 : Int))) 1 rfl (ea_cons (ev_var (S := SA p0) rfl rfl) (ea_cons ev_int ea_nil)) rfl (al_p (fun a z => List.mem_of_mem_eraseIdx z) (al_p (fun a z => List.mem_of_mem_eraseIdx z) al_nil)) e4 (csi (imm_flat _))).le g_s) ev_int))) (fun place state5 yy r1 σ2 B' pD acc he eB ⟨vx, hσ, hx⟩ => by subst hσ; cases he; exact (ev_var (S := rInt.s K place) rfl hx))) (fun vv B9 H9 x9 w9 hv => ?_)
    cases hm
    obtain ⟨oz, gz1, _, gz3, gz4⟩ := w9.cell.get (i := 0) rfl rfl
    exact k _ _ _ oz w9.st w9.ex gz1 gz3 gz4 (r_n w (imm_flat _) hv)
def m__law_order : (List Int) × (List Int) → Option ((List Int) × (List Int)) := fun (state, places) =>
  (rngO (0 : Int) (places.length : Int)).bind fun xs7 =>
  finK (fun (rr : (List Int) × (List Int) × (List Int)) => match rr with | (state9, left10, x_order11) => (some (x_order11, state9))) (fun (_ : Unit) => none) (forL (fun (turn13 : Int) (rr : (List Int) × (List Int) × (List Int)) => (match rr with | (state9, left10, x_order11) => ((m__law_draw (state9, (left10.length : Int))).bind fun (r17, state19) =>
  (popAtO left10 r17).bind fun (r14, left15) =>
  (appO x_order11 r14).bind fun x_order20 =>
  some (.nx (state19, left15, x_order20))) : Option (Ctl ((List Int) × (List Int) × (List Int)) Unit))) xs7 (state, places, ([] : List Int)))
def p__law_order (K : Fg) : Sp := Pr1 K (fun (g : (List Int) × (List Int)) p => [SA p, (rLst rInt).s K g.2]) (fun g => CL rInt K g.1) m__law_order (fun e => CL rInt K e) (rLst rInt)
abbrev N__law_order : List Str := ["state", "places", "left", "order", "turn"]
theorem sc__law_order : FnScope N__law_order ["state", "places"] (defScope s__law_order) := ⟨rfl, rfl, rfl, by decide +kernel, rfl, by decide +kernel, by decide +kernel⟩
theorem ok__law_order {P : Program} {w : World} {K : Fg} {mg : Str → Option Value} {base : Heap} (T : Tx P K mg) {fd : FuncData} (F : FnP K "_law_order" s__law_order (He.ga K "_law_order") fd) : FnOk P w K mg base (L2.CX P w) 2 (He.ga K "_law_order") fd ["state", "places"] (p__law_order K) := by
  obtain ⟨fd__law_draw, F__law_draw⟩ := T.f__law_draw
  have G__law_draw : FnOk P w K mg base (L2.CX P w) 1 (He.ga K "_law_draw") fd__law_draw ["state", "many"] (p__law_draw K) := ok__law_draw T F__law_draw
  have b__law_draw : Binds K fd__law_draw ["state", "many"] [] := F__law_draw.bindsN fun _ _ _ _ _ _ us hl => match us, hl with | [_, _], _ => rfl
  have sc := sc__law_order
  refine F.ok sc (fun vs H Q E h => ?_) (fun cdv A outer s H vs Q E hr h => ?_)
  · obtain ⟨g, p, z, B, o, ss, _⟩ := h
    exact (Paired.length ss).trans rfl
  · obtain ⟨⟨state, places⟩, p0, z, B, o, ss, ex, h1, h2, h3, h4, hm, k⟩ := h
    obtain ⟨v0, v1, rfl, z0, z1⟩ := pn2 ss
    cases (show _ = V.ref p0 from z0)
    refine ⟨_, (pss_cons (ps_set (i := 2) sc.nd rfl (Or.inl rfl) (pe_callTy (clst (K := K) rfl) (by rfl) T.b_list (by decide +kernel) (pa_cons (pv 1) pa_nil))) (pss_cons (ps_set (i := 3) sc.nd rfl (Or.inl rfl) (pe_lst pa_nil)) (pss_cons (ps_for (passes_of rfl) rfl (pi_range1 (by rfl) T.b_range (pa_cons (pe_callB (clen (K := K) rfl) (by rfl) T.b_len (by decide +kernel) (pa_cons (pv 1) pa_nil)) pa_nil)) (pg_name (i := 4) sc.nd rfl (Or.inl rfl)) (pss_one (ps_expr (pe_bm PySem.F.plainAttrs_list PySem.F.slot_list_append PySem.F.type_list_append mt_append (pv 3) (pa_cons (pe_bm PySem.F.plainAttrs_list PySem.F.slot_list_pop PySem.F.type_list_pop mt_popAt (pv 2) (pa_cons (pe_call G__law_draw (hr.mono (by decide)) (by rfl) T.m__law_draw F__law_draw.kp b__law_draw .nil passL (pa_cons (pv 0) (pa_cons (pe_callB (clen (K := K) rfl) (by rfl) T.b_len (by decide +kernel) (pa_cons (pv 2) pa_nil)) pa_nil))) pa_nil)) pa_nil))))) (pss_one (ps_ret (pv 3)))))), ?_⟩
    have w := Wd.start1 (K := K) ex h1 h2 h3 h4
    unfold m__law_order at hm
    refine s_own w (ev_list (ev_var (S := (rLst rInt).s K places) rfl z1) src_p) (imm_flat _) ⟨csi (imm_flat _), trivial⟩ (fun q2 B1 H1 x1 n3 w1 => ?_)
    refine s_ownNil rInt w1 (fun q5 H4 n6 w4 => ?_)
    obtain ⟨xs7, e8, hm⟩ := ob hm
    refine s_for (R := rInt) (oo := (fun (rr : (List Int) × (List Int) × (List Int)) => [CL rInt K rr.2.2, CL rInt K rr.2.1, CL rInt K rr.1])) (ρ0 := (state, places, ([] : List Int))) (fun (turn13 : Int) (rr : (List Int) × (List Int) × (List Int)) => (match rr with | (state9, left10, x_order11) => ((m__law_draw (state9, (left10.length : Int))).bind fun (r17, state19) =>
(popAtO left10 r17).bind fun (r14, left15) =>
(appO x_order11 r14).bind fun x_order20 =>
some (.nx (state19, left15, x_order20))) : Option (Ctl ((List Int) × (List Int) × (List Int)) Unit))) (fun (rr : (List Int) × (List Int) × (List Int)) σ' B' => ∃ o_4 : Option V, σ' = [some (.ref p0), some v1, some (.ref q2), some (.ref q5), o_4]) (fun zz => finK _ _ zz = some _) w4 (ei_r1 (ev_len (ev_var (S := (rLst rInt).s K places) rfl (Sv.mono _ x1 z1)) src_p) e8) (fun rr σ' B1 B2 e ⟨o_4, hσ⟩ => ⟨o_4, hσ⟩) (fun B2 e => ⟨_, rfl⟩) hm ?_ ?_
    · rintro turn13 rst rr vx12 σ' Bt12 Ht12 xt12 wt12 ⟨o_4t12, rfl⟩ hx12 hf N hN dn
      dsimp only [gName]
      obtain ⟨state9, left10, x_order11⟩ := rr
      obtain ⟨ctl, hfx, hbk12, hrt12⟩ := forL_step hf
      have hm := hfx
      obtain ⟨⟨r17, state19⟩, e18, hm⟩ := ob hm
      try dsimp only at hm
      obtain ⟨⟨r14, left15⟩, e16, hm⟩ := ob hm
      try dsimp only at hm
      obtain ⟨x_order20, e21, hm⟩ := ob hm
      refine s_drop wt12 (ev_app 0 rfl (ev_var (S := SA q5) rfl rfl) rfl (ev_popAt 1 rfl (ev_var (S := SA q2) rfl rfl) rfl ((ev_call1 (g := (state9, (left10.length : Int))) 2 rfl (ea_cons (ev_var (S := SA p0) rfl rfl) (ea_cons (ev_len (ev_var (S := SA q2) rfl rfl) (src_o (R := rInt) (xs := left10) 1 rfl rfl)) ea_nil)) rfl (al_p (fun a z => List.mem_of_mem_eraseIdx z) (al_p (fun a z => List.mem_of_mem_eraseIdx z) al_nil)) e18 (csi (imm_flat _))).le g_s) rfl e16) rfl e21) (fun B22 H22 x22 w22 => ?_)
      have hq_ := Option.some.inj hm
      subst hq_
      exact hN (state19, left15, x_order20) _ _ _ hfx x22 w22 ⟨_, rfl⟩
    · rintro rr σ' B23 H23 x23 w23 ⟨o_4k24, rfl⟩ hm
      try dsimp only
      replace hm := finK_nx hm
      obtain ⟨state9, left10, x_order11⟩ := rr
      refine s_ret w23 (ev_var (S := SA q5) rfl rfl) (fun vv B25 H25 x25 w25 hv => ?_)
      cases (show vv = _ from hv)
      cases hm
      obtain ⟨Bz, xz, w26, rz⟩ := r_o w25 n6 (imm_flat _)
      obtain ⟨oz, gz1, _, gz3, gz4⟩ := w26.cell.get (i := 1) rfl rfl
      exact k _ _ _ oz w26.st w26.ex gz1 gz3 gz4 rz
def m__law_whole : Int → Option (Bool) := fun thing =>
  some (true && (!false))
def p__law_whole (K : Fg) : Sp := Pr0 K (fun (g : Int) => [rInt.s K g]) m__law_whole rBool
abbrev N__law_whole : List Str := ["thing"]
theorem sc__law_whole : FnScope N__law_whole ["thing"] (defScope s__law_whole) := ⟨rfl, rfl, rfl, by decide +kernel, rfl, by decide +kernel, by decide +kernel⟩
theorem ok__law_whole {P : Program} {w : World} {K : Fg} {mg : Str → Option Value} {base : Heap} (T : Tx P K mg) {fd : FuncData} (F : FnP K "_law_whole" s__law_whole (He.ga K "_law_whole") fd) : FnOk P w K mg base (L2.CX P w) 1 (He.ga K "_law_whole") fd ["thing"] (p__law_whole K) := by
  have sc := sc__law_whole
  refine F.ok sc (fun vs H Q E h => ?_) (fun cdv A outer s H vs Q E hr h => ?_)
  · obtain ⟨g, z, B, ss, _⟩ := h
    exact (Paired.length ss).trans rfl
  · obtain ⟨thing, z, B, ss, ex, hm, k⟩ := h
    obtain ⟨v0, rfl, z0⟩ := pn1 ss
    refine ⟨_, (pss_one (ps_ret (pe_and (pe_callB (cisi (K := K) rfl) (by rfl) T.b_isinstance (by decide +kernel) (pa_cons (pv 0) (pa_cons (pe_bltn (v := .ty "int") (by rfl) T.b_int (by decide +kernel) rfl) pa_nil))) (pe_one (pe_not (pe_callB (cisi (K := K) rfl) (by rfl) T.b_isinstance (by decide +kernel) (pa_cons (pv 0) (pa_cons (pe_bltn (v := .ty "bool") (by rfl) T.b_bool (by decide +kernel) rfl) pa_nil)))))))), ?_⟩
    have w := Wd.start (K := K) ex
    unfold m__law_whole at hm
    refine s_ret w (ev_andV (ev_isi_int (ev_var (S := rInt.s K thing) rfl z0) (b := true) (by decide +kernel)) (fun _ => (ev_notV (ev_isi_int (ev_var (S := rInt.s K thing) rfl z0) (b := false) (by decide +kernel)))) (fun _ => rfl)) (fun vv B1 H1 x1 w1 hv => ?_)
    cases hm
    exact k _ _ _ w1.st w1.ex ((imm_flat _) _ _ _ _ _ hv)
def m__law_same_row : (List Int) × (List Int) → Option (Bool) := fun (told, due) =>
  cond ((!true) || (!decide ((told.length : Int) = (due.length : Int)))) (some false) ((rngO (0 : Int) (due.length : Int)).bind fun xs3 =>
  finK (fun (_ : Unit) => (some true)) (fun (tt : Bool) => some tt) (forL (fun (x_k6 : Int) (_ : Unit) => ((atI told x_k6).bind fun t7 =>
  (m__law_whole t7).bind fun r9 =>
  (cond (!r9) (some true) ((atI told x_k6).bind fun t11 => (atI due x_k6).bind fun t13 => some (!decide (t11 = t13)))).bind fun b15 =>
  cond b15 (some (.rt false)) (some (.nx ())) : Option (Ctl Unit Bool))) xs3 ()))
def p__law_same_row (K : Fg) : Sp := Pr0 K (fun (g : (List Int) × (List Int)) => [(rLst rInt).s K g.1, (rLst rInt).s K g.2]) m__law_same_row rBool
abbrev N__law_same_row : List Str := ["told", "due", "k"]
theorem sc__law_same_row : FnScope N__law_same_row ["told", "due"] (defScope s__law_same_row) := ⟨rfl, rfl, rfl, by decide +kernel, rfl, by decide +kernel, by decide +kernel⟩
theorem ok__law_same_row {P : Program} {w : World} {K : Fg} {mg : Str → Option Value} {base : Heap} (T : Tx P K mg) {fd : FuncData} (F : FnP K "_law_same_row" s__law_same_row (He.ga K "_law_same_row") fd) : FnOk P w K mg base (L2.CX P w) 2 (He.ga K "_law_same_row") fd ["told", "due"] (p__law_same_row K) := by
  obtain ⟨fd__law_whole, F__law_whole⟩ := T.f__law_whole
  have G__law_whole : FnOk P w K mg base (L2.CX P w) 1 (He.ga K "_law_whole") fd__law_whole ["thing"] (p__law_whole K) := ok__law_whole T F__law_whole
  have b__law_whole : Binds K fd__law_whole ["thing"] [] := F__law_whole.bindsN fun _ _ _ _ _ _ us hl => match us, hl with | [_], _ => rfl
  have sc := sc__law_same_row
  refine F.ok sc (fun vs H Q E h => ?_) (fun cdv A outer s H vs Q E hr h => ?_)
  · obtain ⟨g, z, B, ss, _⟩ := h
    exact (Paired.length ss).trans rfl
  · obtain ⟨⟨told, due⟩, z, B, ss, ex, hm, k⟩ := h
    obtain ⟨v0, v1, rfl, z0, z1⟩ := pn2 ss
    refine ⟨_, (pss_cons (ps_if (PW.pt (pw_or (pt_not (pt_val (pe_callB (cisi (K := K) rfl) (by rfl) T.b_isinstance (by decide +kernel) (pa_cons (pv 0) (pa_cons (pe_bltn (v := .ty "list") (by rfl) T.b_list (by decide +kernel) rfl) pa_nil))))) (pw_or1 (pt_cmpR op_ne (pe_callB (clen (K := K) rfl) (by rfl) T.b_len (by decide +kernel) (pa_cons (pv 0) pa_nil)) (pe_callB (clen (K := K) rfl) (by rfl) T.b_len (by decide +kernel) (pa_cons (pv 1) pa_nil)) (nomark _))))) (pss_one (ps_ret pe_bl)) pss_nil) (pss_cons (ps_for (passes_of rfl) rfl (pi_range1 (by rfl) T.b_range (pa_cons (pe_callB (clen (K := K) rfl) (by rfl) T.b_len (by decide +kernel) (pa_cons (pv 1) pa_nil)) pa_nil)) (pg_name (i := 2) sc.nd rfl (Or.inl rfl)) (pss_one (ps_if (PW.pt (pw_or (pt_not (pt_val (pe_call G__law_whole (hr.mono (by decide)) (by rfl) T.m__law_whole F__law_whole.kp b__law_whole .nil passL (pa_cons (pe_ix (ixl (K := K) rfl) (pv 0) (pv 2) (fun _ _ => rfl)) pa_nil)))) (pw_or1 (pt_cmpR op_ne (pe_ix (ixl (K := K) rfl) (pv 0) (pv 2) (fun _ _ => rfl)) (pe_ix (ixl (K := K) rfl) (pv 1) (pv 2) (fun _ _ => rfl)) (nomark _))))) (pss_one (ps_ret pe_bl)) pss_nil))) (pss_one (ps_ret pe_bl)))), ?_⟩
    have w := Wd.start (K := K) ex
    unfold m__law_same_row at hm
    try dsimp only
    refine s_if w (et_or (et_not (et_B (ev_isi_list (ev_var (S := (rLst rInt).s K told) rfl z0) src_p (b := true) (by decide +kernel)))) (fun _ => (et_test (ev_neI (ev_len (ev_var (S := (rLst rInt).s K told) rfl z0) src_p) (ev_len (ev_var (S := (rLst rInt).s K due) rfl z1) src_p)))) (fun _ => rfl)) (fun hb B1 H1 x1 w1 => ?_) (fun hb B1 H1 x1 w1 => ?_)
    · have hm := it hb hm
      refine s_ret w1 ev_bl (fun vv B2 H2 x2 w2 hv => ?_)
      cases hm
      exact k _ _ _ w2.st w2.ex ((imm_flat _) _ _ _ _ _ hv)
    · have hm := ie hb hm
      obtain ⟨xs3, e4, hm⟩ := ob hm
      refine s_for (R := rInt) (oo := (fun (rr : Unit) => [])) (ρ0 := ()) (fun (x_k6 : Int) (_ : Unit) => ((atI told x_k6).bind fun t7 =>
(m__law_whole t7).bind fun r9 =>
(cond (!r9) (some true) ((atI told x_k6).bind fun t11 => (atI due x_k6).bind fun t13 => some (!decide (t11 = t13)))).bind fun b15 =>
cond b15 (some (.rt false)) (some (.nx ())) : Option (Ctl Unit Bool))) (fun (_ : Unit) σ' B' => ∃ o_2 : Option V, σ' = [some v0, some v1, o_2]) (fun zz => finK _ _ zz = some _) w1 (ei_r1 (ev_len (ev_var (S := (rLst rInt).s K due) rfl (Sv.mono _ x1 z1)) src_p) e4) (fun rr σ' B1 B2 e ⟨o_2, hσ⟩ => ⟨o_2, hσ⟩) (fun B2 e => ⟨_, rfl⟩) hm ?_ ?_
      · rintro x_k6 rst rr vx5 σ' Bt5 Ht5 xt5 wt5 ⟨o_2t5, rfl⟩ hx5 hf N hN dn
        dsimp only [gName]
        obtain ⟨ctl, hfx, hbk5, hrt5⟩ := forL_step hf
        have hm := hfx
        obtain ⟨t7, e8, hm⟩ := ob hm
        obtain ⟨r9, e10, hm⟩ := ob hm
        obtain ⟨b15, e16, hm⟩ := ob hm
        try dsimp only
        refine s_if wt5 (et_orO (b := b15) (et_not (et_B ((ev_call0 (g := t7) (ea_cons (ev_ix (ev_var (S := (rLst rInt).s K told) rfl (Sv.mono _ xt5 (Sv.mono _ x1 z0))) (ev_var (S := rInt.s K x_k6) rfl hx5) src_p e8) ea_nil) (al_p (fun _ z => z) al_nil) e10).le g_s))) (fun hc => by have e16 := ie hc e16; obtain ⟨t11, e12, e16⟩ := ob e16; obtain ⟨t13, e14, e16⟩ := ob e16; have hq_ := Option.some.inj e16; subst hq_; exact (et_test (ev_neI (ev_ix (ev_var (S := (rLst rInt).s K told) rfl (Sv.mono _ xt5 (Sv.mono _ x1 z0))) (ev_var (S := rInt.s K x_k6) rfl hx5) src_p e12) (ev_ix (ev_var (S := (rLst rInt).s K due) rfl (Sv.mono _ xt5 (Sv.mono _ x1 z1))) (ev_var (S := rInt.s K x_k6) rfl hx5) src_p e14)))) (fun hc => by have e16 := it hc e16; cases e16; exact ⟨rfl, rfl⟩)) (fun hb B17 H17 x17 w17 => ?_) (fun hb B17 H17 x17 w17 => ?_)
        · have hm := it hb hm
          refine s_ret w17 ev_bl (fun vv B18 H18 x18 w18 hv => ?_)
          cases hm
          replace hm := hrt5 _ rfl
          cases hm
          exact k _ _ _ w18.st w18.ex ((imm_flat _) _ _ _ _ _ hv)
        · have hm := ie hb hm
          have hq_ := Option.some.inj hm
          subst hq_
          exact hN () _ _ _ hfx x17 w17 ⟨_, rfl⟩
      · rintro rr σ' B19 H19 x19 w19 ⟨o_2k20, rfl⟩ hm
        try dsimp only
        replace hm := finK_nx hm
        refine s_ret w19 ev_bl (fun vv B21 H21 x21 w21 hv => ?_)
        cases hm
        exact k _ _ _ w21.st w21.ex ((imm_flat _) _ _ _ _ _ hv)
def m__law_same_rows : (List (List Int)) × (List (List Int)) → Option (Bool) := fun (told, due) =>
  cond ((!true) || (!decide ((told.length : Int) = (due.length : Int)))) (some false) ((rngO (0 : Int) (due.length : Int)).bind fun xs3 =>
  finK (fun (_ : Unit) => (some true)) (fun (tt : Bool) => some tt) (forL (fun (x_k6 : Int) (_ : Unit) => ((atI told x_k6).bind fun t7 =>
  (atI due x_k6).bind fun t9 =>
  (m__law_same_row (t7, t9)).bind fun r11 =>
  cond (!r11) (some (.rt false)) (some (.nx ())) : Option (Ctl Unit Bool))) xs3 ()))
def p__law_same_rows (K : Fg) : Sp := Pr0 K (fun (g : (List (List Int)) × (List (List Int))) => [(rLst (rLst rInt)).s K g.1, (rLst (rLst rInt)).s K g.2]) m__law_same_rows rBool
abbrev N__law_same_rows : List Str := ["told", "due", "k"]
theorem sc__law_same_rows : FnScope N__law_same_rows ["told", "due"] (defScope s__law_same_rows) := ⟨rfl, rfl, rfl, by decide +kernel, rfl, by decide +kernel, by decide +kernel⟩
theorem ok__law_same_rows {P : Program} {w : World} {K : Fg} {mg : Str → Option Value} {base : Heap} (T : Tx P K mg) {fd : FuncData} (F : FnP K "_law_same_rows" s__law_same_rows (He.ga K "_law_same_rows") fd) : FnOk P w K mg base (L2.CX P w) 3 (He.ga K "_law_same_rows") fd ["told", "due"] (p__law_same_rows K) := by
  obtain ⟨fd__law_same_row, F__law_same_row⟩ := T.f__law_same_row
  have G__law_same_row : FnOk P w K mg base (L2.CX P w) 2 (He.ga K "_law_same_row") fd__law_same_row ["told", "due"] (p__law_same_row K) := ok__law_same_row T F__law_same_row
  have b__law_same_row : Binds K fd__law_same_row ["told", "due"] [] := F__law_same_row.bindsN fun _ _ _ _ _ _ us hl => match us, hl with | [_, _], _ => rfl
  have sc := sc__law_same_rows
  refine F.ok sc (fun vs H Q E h => ?_) (fun cdv A outer s H vs Q E hr h => ?_)
  · obtain ⟨g, z, B, ss, _⟩ := h
    exact (Paired.length ss).trans rfl
  · obtain ⟨⟨told, due⟩, z, B, ss, ex, hm, k⟩ := h
    obtain ⟨v0, v1, rfl, z0, z1⟩ := pn2 ss
    refine ⟨_, (pss_cons (ps_if (PW.pt (pw_or (pt_not (pt_val (pe_callB (cisi (K := K) rfl) (by rfl) T.b_isinstance (by decide +kernel) (pa_cons (pv 0) (pa_cons (pe_bltn (v := .ty "list") (by rfl) T.b_list (by decide +kernel) rfl) pa_nil))))) (pw_or1 (pt_cmpR op_ne (pe_callB (clen (K := K) rfl) (by rfl) T.b_len (by decide +kernel) (pa_cons (pv 0) pa_nil)) (pe_callB (clen (K := K) rfl) (by rfl) T.b_len (by decide +kernel) (pa_cons (pv 1) pa_nil)) (nomark _))))) (pss_one (ps_ret pe_bl)) pss_nil) (pss_cons (ps_for (passes_of rfl) rfl (pi_range1 (by rfl) T.b_range (pa_cons (pe_callB (clen (K := K) rfl) (by rfl) T.b_len (by decide +kernel) (pa_cons (pv 1) pa_nil)) pa_nil)) (pg_name (i := 2) sc.nd rfl (Or.inl rfl)) (pss_one (ps_if (pt_not (pt_val (pe_call G__law_same_row (hr.mono (by decide)) (by rfl) T.m__law_same_row F__law_same_row.kp b__law_same_row .nil passL (pa_cons (pe_ix (ixl (K := K) rfl) (pv 0) (pv 2) (fun _ _ => rfl)) (pa_cons (pe_ix (ixl (K := K) rfl) (pv 1) (pv 2) (fun _ _ => rfl)) pa_nil))))) (pss_one (ps_ret pe_bl)) pss_nil))) (pss_one (ps_ret pe_bl)))), ?_⟩
    have w := Wd.start (K := K) ex
    unfold m__law_same_rows at hm
    try dsimp only
    refine s_if w (et_or (et_not (et_B (ev_isi_list (ev_var (S := (rLst (rLst rInt)).s K told) rfl z0) src_p (b := true) (by decide +kernel)))) (fun _ => (et_test (ev_neI (ev_len (ev_var (S := (rLst (rLst rInt)).s K told) rfl z0) src_p) (ev_len (ev_var (S := (rLst (rLst rInt)).s K due) rfl z1) src_p)))) (fun _ => rfl)) (fun hb B1 H1 x1 w1 => ?_) (fun hb B1 H1 x1 w1 => ?_)
    · have hm := it hb hm
      refine s_ret w1 ev_bl (fun vv B2 H2 x2 w2 hv => ?_)
      cases hm
      exact k _ _ _ w2.st w2.ex ((imm_flat _) _ _ _ _ _ hv)
    · have hm := ie hb hm
      obtain ⟨xs3, e4, hm⟩ := ob hm
      refine s_for (R := rInt) (oo := (fun (rr : Unit) => [])) (ρ0 := ()) (fun (x_k6 : Int) (_ : Unit) => ((atI told x_k6).bind fun t7 =>
(atI due x_k6).bind fun t9 =>
(m__law_same_row (t7, t9)).bind fun r11 =>
cond (!r11) (some (.rt false)) (some (.nx ())) : Option (Ctl Unit Bool))) (fun (_ : Unit) σ' B' => ∃ o_2 : Option V, σ' = [some v0, some v1, o_2]) (fun zz => finK _ _ zz = some _) w1 (ei_r1 (ev_len (ev_var (S := (rLst (rLst rInt)).s K due) rfl (Sv.mono _ x1 z1)) src_p) e4) (fun rr σ' B1 B2 e ⟨o_2, hσ⟩ => ⟨o_2, hσ⟩) (fun B2 e => ⟨_, rfl⟩) hm ?_ ?_
      · rintro x_k6 rst rr vx5 σ' Bt5 Ht5 xt5 wt5 ⟨o_2t5, rfl⟩ hx5 hf N hN dn
        dsimp only [gName]
        obtain ⟨ctl, hfx, hbk5, hrt5⟩ := forL_step hf
        have hm := hfx
        obtain ⟨t7, e8, hm⟩ := ob hm
        obtain ⟨t9, e10, hm⟩ := ob hm
        obtain ⟨r11, e12, hm⟩ := ob hm
        try dsimp only
        refine s_if wt5 (et_not (et_B ((ev_call0 (g := (t7, t9)) (ea_cons (ev_ix (ev_var (S := (rLst (rLst rInt)).s K told) rfl (Sv.mono _ xt5 (Sv.mono _ x1 z0))) (ev_var (S := rInt.s K x_k6) rfl hx5) src_p e8) (ea_cons (ev_ix (ev_var (S := (rLst (rLst rInt)).s K due) rfl (Sv.mono _ xt5 (Sv.mono _ x1 z1))) (ev_var (S := rInt.s K x_k6) rfl hx5) src_p e10) ea_nil)) (al_p (fun _ z => z) (al_p (fun _ z => z) al_nil)) e12).le g_s))) (fun hb B13 H13 x13 w13 => ?_) (fun hb B13 H13 x13 w13 => ?_)
        · have hm := it hb hm
          refine s_ret w13 ev_bl (fun vv B14 H14 x14 w14 hv => ?_)
          cases hm
          replace hm := hrt5 _ rfl
          cases hm
          exact k _ _ _ w14.st w14.ex ((imm_flat _) _ _ _ _ _ hv)
        · have hm := ie hb hm
          have hq_ := Option.some.inj hm
          subst hq_
          exact hN () _ _ _ hfx x13 w13 ⟨_, rfl⟩
      · rintro rr σ' B15 H15 x15 w15 ⟨o_2k16, rfl⟩ hm
        try dsimp only
        replace hm := finK_nx hm
        refine s_ret w15 ev_bl (fun vv B17 H17 x17 w17 hv => ?_)
        cases hm
        exact k _ _ _ w17.st w17.ex ((imm_flat _) _ _ _ _ _ hv)
def m__law_copy : (List (List Int)) → Option (List (List Int)) := fun table =>
  (lcO (fun (row : List Int) (rr : Unit) => match rr with | () => some (true, ())) (fun (row : List Int) (rr : Unit) => match rr with | () => some (row, ())) table ()).bind fun (ys1, _) =>
  some ys1
def p__law_copy (K : Fg) : Sp := Pr0 K (fun (g : (List (List Int))) => [(rLst (rLst rInt)).s K g]) m__law_copy rLL
abbrev N__law_copy : List Str := ["table", "row"]
theorem sc__law_copy : FnScope N__law_copy ["table"] (defScope s__law_copy) := ⟨rfl, rfl, rfl, by decide +kernel, rfl, by decide +kernel, by decide +kernel⟩
theorem ok__law_copy {P : Program} {w : World} {K : Fg} {mg : Str → Option Value} {base : Heap} (T : Tx P K mg) {fd : FuncData} (F : FnP K "_law_copy" s__law_copy (He.ga K "_law_copy") fd) : FnOk P w K mg base (L2.CX P w) 1 (He.ga K "_law_copy") fd ["table"] (p__law_copy K) := by
  have sc := sc__law_copy
  refine F.ok sc (fun vs H Q E h => ?_) (fun cdv A outer s H vs Q E hr h => ?_)
  · obtain ⟨g, z, B, ss, _⟩ := h
    exact (Paired.length ss).trans rfl
  · obtain ⟨table, z, B, ss, ex, hm, k⟩ := h
    obtain ⟨v0, rfl, z0⟩ := pn1 ss
    refine ⟨_, (pss_one (ps_ret (pe_lc (own := [("row", 1)]) (g := (gName 1)) (by rfl) sc.nd (pi_list (pv 0)) (blkOk_by (own := [("row", 1)]) (N := N__law_copy) (sc := defScope s__law_copy) (by decide +kernel)) (fun _ _ _ _ _ => pg_name (i := 1) sc.nd rfl (Or.inl rfl)) (fun _ _ _ _ _ => pts_nil) (fun _ _ _ _ _ => (pe_callTy (clst (K := K) rfl) (by rfl) T.b_list (by decide +kernel) (pa_cons (pv 1) pa_nil)))))), ?_⟩
    have w := Wd.start (K := K) ex
    unfold m__law_copy at hm
    obtain ⟨⟨ys1, _⟩, e2, hm⟩ := ob hm
    try dsimp only at hm
    refine s_ret w (ev_lcF (R := (rLst rInt)) (oo := (fun (rr : Unit) => [])) (fun (row : List Int) (rr : Unit) => match rr with | () => some (true, ())) (fun (row : List Int) (rr : Unit) => match rr with | () => some (row, ())) (lcT (rLst rInt) K _ 1 [1]) (ei_list (ev_var (S := (rLst (rLst rInt)).s K table) rfl z0)) e2 (lcT_mono _ _ _ _ _) (lcT_name rfl 1 [1] (by intro x; rfl)) (fun row rr bb r1 σ2 B' pD acc ht eB ⟨vx, hσ, hx⟩ => by cases ht; exact et_yes) (fun Hh row rr yy r1 σ2 B' pD acc he eB ⟨vx, hσ, hx⟩ => by subst hσ; cases he; exact (ev_list (ev_var (S := (rLst rInt).s K row) rfl hx) src_p))) (fun vv B3 H3 x3 w3 hv => ?_)
    cases hm
    exact k _ _ _ w3.st w3.ex (r_f w hv)
def m__law_tolls : (List Int) × Int → Option ((List (List Int)) × (List Int)) := fun (state, size) =>
  (m__law_draw (state, (3 : Int))).bind fun (r1, state3) =>
  (atI [(3 : Int), (9 : Int), (1000000 : Int)] r1).bind fun t4 =>
  (rngO (0 : Int) size).bind fun xs12 =>
  finK (fun (rr : (List Int) × (List (List Int))) => match rr with | (state14, table15) => (some (table15, state14))) (fun (_ : Unit) => none) (forL (fun (place17 : Int) (rr : (List Int) × (List (List Int))) => (match rr with | (state14, table15) => ((rngO (0 : Int) (size + (1 : Int))).bind fun xs19 =>
  (lcO (fun (x_end : Int) (rr : (List Int)) => match rr with | state14 => some (true, state14)) (fun (x_end : Int) (rr : (List Int)) => match rr with | state14 => (m__law_draw (state14, t4)).bind fun (r21, state23) => some (((1 : Int) + r21), state23)) xs19 state14).bind fun (ys24, state26) =>
  (setO ys24 place17 (0 : Int)).bind fun row31 =>
  (appO table15 row31).bind fun table38 =>
  some (.nx (state26, table38))) : Option (Ctl ((List Int) × (List (List Int))) Unit))) xs12 (state3, ([] : List (List Int))))
def p__law_tolls (K : Fg) : Sp := Pr1a K (fun (g : (List Int) × Int) p => [SA p, rInt.s K g.2]) (fun g => CL rInt K g.1) m__law_tolls (fun e => CL rInt K e) (rLst (rLst rInt))
abbrev N__law_tolls : List Str := ["state", "size", "top", "table", "place", "row", "end"]
theorem sc__law_tolls : FnScope N__law_tolls ["state", "size"] (defScope s__law_tolls) := ⟨rfl, rfl, rfl, by decide +kernel, rfl, by decide +kernel, by decide +kernel⟩
theorem ok__law_tolls {P : Program} {w : World} {K : Fg} {mg : Str → Option Value} {base : Heap} (T : Tx P K mg) {fd : FuncData} (F : FnP K "_law_tolls" s__law_tolls (He.ga K "_law_tolls") fd) : FnOk P w K mg base (L2.CX P w) 2 (He.ga K "_law_tolls") fd ["state", "size"] (p__law_tolls K) := by
  obtain ⟨fd__law_draw, F__law_draw⟩ := T.f__law_draw
  have G__law_draw : FnOk P w K mg base (L2.CX P w) 1 (He.ga K "_law_draw") fd__law_draw ["state", "many"] (p__law_draw K) := ok__law_draw T F__law_draw
  have b__law_draw : Binds K fd__law_draw ["state", "many"] [] := F__law_draw.bindsN fun _ _ _ _ _ _ us hl => match us, hl with | [_, _], _ => rfl
  have sc := sc__law_tolls
  refine F.ok sc (fun vs H Q E h => ?_) (fun cdv A outer s H vs Q E hr h => ?_)
  · obtain ⟨g, p, z, B, o, ss, _⟩ := h
    exact (Paired.length ss).trans rfl
  · obtain ⟨⟨state, size⟩, p0, z, B, o, ss, ex, h1, h2, h3, h4, hm, k⟩ := h
    obtain ⟨v0, v1, rfl, z0, z1⟩ := pn2 ss
    cases (show _ = V.ref p0 from z0)
    refine ⟨_, (pss_cons (ps_set (i := 2) sc.nd rfl (Or.inr rfl) (pe_ix (ixl (K := K) rfl) (pe_lst (pa_cons pe_int (pa_cons pe_int (pa_cons pe_int pa_nil)))) (pe_call G__law_draw (hr.mono (by decide)) (by rfl) T.m__law_draw F__law_draw.kp b__law_draw .nil passL (pa_cons (pv 0) (pa_cons pe_int pa_nil))) (fun _ _ => rfl))) (pss_cons (ps_set (i := 3) sc.nd rfl (Or.inl rfl) (pe_lst pa_nil)) (pss_cons (ps_for (passes_of rfl) rfl (pi_range1 (by rfl) T.b_range (pa_cons (pv 1) pa_nil)) (pg_name (i := 4) sc.nd rfl (Or.inl rfl)) (pss_cons (ps_setLc (i := 5) (own := [("end", 6)]) (g := (gName 6)) (by rfl) sc.nd rfl rfl (sw_true rfl rfl rfl (by decide +kernel)) (pi_range1 (by rfl) T.b_range (pa_cons (pe_op op_add (pv 1) pe_int) pa_nil)) (blkOk_by (own := [("end", 6)]) (N := N__law_tolls) (sc := defScope s__law_tolls) (by decide +kernel)) (fun _ _ _ _ _ => pg_name (i := 6) sc.nd rfl (Or.inl rfl)) (fun _ _ _ _ _ => pts_nil) (fun _ _ _ _ _ => (pe_op op_add pe_int (pe_call G__law_draw (hr.mono (by decide)) (by rfl) T.m__law_draw F__law_draw.kp b__law_draw .nil passL (pa_cons (pv 0) (pa_cons (pv 2) pa_nil)))))) (pss_cons (ps_asg pe_int (pg_sub (pv 5) (pv 4) set_list)) (pss_one (ps_expr (pe_bm PySem.F.plainAttrs_list PySem.F.slot_list_append PySem.F.type_list_append mt_append (pv 3) (pa_cons (pv 5) pa_nil))))))) (pss_one (ps_ret (pv 3)))))), ?_⟩
    have w := Wd.start1 (K := K) ex h1 h2 h3 h4
    unfold m__law_tolls at hm
    obtain ⟨⟨r1, state3⟩, e2, hm⟩ := ob hm
    try dsimp only at hm
    obtain ⟨t4, e5, hm⟩ := ob hm
    refine s_asg w (ev_ix (ev_lst (R := rInt) (xs := [(3 : Int), (9 : Int), (1000000 : Int)]) (ea_cons ev_int (ea_cons ev_int (ea_cons ev_int ea_nil))) (by show 3 ≤ 1000; decide)) ((ev_call1 (g := (state, (3 : Int))) 0 rfl (ea_cons (ev_var (S := SA p0) rfl rfl) (ea_cons ev_int ea_nil)) rfl (al_p (fun a z => List.mem_of_mem_eraseIdx z) (al_p (fun a z => List.mem_of_mem_eraseIdx z) al_nil)) e2 (csi (imm_flat _))).le g_s) src_n e5) (fun v_7 B6 H6 x6 w6 h8 => ?_)
    refine s_ownNil (rLst rInt) w6 (fun q10 H9 n11 w9 => ?_)
    obtain ⟨xs12, e13, hm⟩ := ob hm
    refine s_for (R := rInt) (oo := (fun (rr : (List Int) × (List (List Int))) => [CL (rLst rInt) K rr.2, CL rInt K rr.1])) (ρ0 := (state3, ([] : List (List Int)))) (fun (place17 : Int) (rr : (List Int) × (List (List Int))) => (match rr with | (state14, table15) => ((rngO (0 : Int) (size + (1 : Int))).bind fun xs19 =>
(lcO (fun (x_end : Int) (rr : (List Int)) => match rr with | state14 => some (true, state14)) (fun (x_end : Int) (rr : (List Int)) => match rr with | state14 => (m__law_draw (state14, t4)).bind fun (r21, state23) => some (((1 : Int) + r21), state23)) xs19 state14).bind fun (ys24, state26) =>
(setO ys24 place17 (0 : Int)).bind fun row31 =>
(appO table15 row31).bind fun table38 =>
some (.nx (state26, table38))) : Option (Ctl ((List Int) × (List (List Int))) Unit))) (fun (rr : (List Int) × (List (List Int))) σ' B' => ∃ o_4 : Option V, ∃ o_5 : Option V, ∃ o_6 : Option V, σ' = [some (.ref p0), some v1, some v_7, some (.ref q10), o_4, o_5, o_6]) (fun zz => finK _ _ zz = some _) w9 (ei_r1 (ev_var (S := rInt.s K size) rfl (Sv.mono _ x6 z1)) e13) (fun rr σ' B1 B2 e ⟨o_4, o_5, o_6, hσ⟩ => ⟨o_4, o_5, o_6, hσ⟩) (fun B2 e => ⟨_, _, _, rfl⟩) hm ?_ ?_
    · rintro place17 rst rr vx16 σ' Bt16 Ht16 xt16 wt16 ⟨o_4t16, o_5t16, o_6t16, rfl⟩ hx16 hf N hN dn
      dsimp only [gName]
      obtain ⟨state14, table15⟩ := rr
      obtain ⟨ctl, hfx, hbk16, hrt16⟩ := forL_step hf
      have hm := hfx
      have wp18 := Wd.pin wt16 0 rfl
      obtain ⟨xs19, e20, hm⟩ := ob hm
      obtain ⟨⟨ys24, state26⟩, e25, hm⟩ := ob hm
      try dsimp only at hm
      refine s_own wp18 (ev_lc (R := rInt) (R' := rInt) (oo := (fun (rr : (List Int)) => [pinC Bt16 (CL (rLst rInt) K table15), CL rInt K rr])) (fun (x_end : Int) (rr : (List Int)) => match rr with | state14 => some (true, state14)) (fun (x_end : Int) (rr : (List Int)) => match rr with | state14 => (m__law_draw (state14, t4)).bind fun (r21, state23) => some (((1 : Int) + r21), state23)) (lcT rInt K _ 6 [6]) (ei_r1 (ev_add (ev_var (S := rInt.s K size) rfl (Sv.mono _ xt16 (Sv.mono _ x6 z1))) ev_int) e20) e25 (lcT_mono _ _ _ _ _) (lcT_name rfl 6 [6] (by intro x; rfl)) (fun x_end state14 bb r1 σ2 B' pD acc ht eB ⟨vx, hσ, hx⟩ => by cases ht; exact et_yes) (fun x_end state14 yy r1 σ2 B' pD acc he eB ⟨vx, hσ, hx⟩ => by subst hσ; obtain ⟨⟨r21, state23⟩, e22, he⟩ := ob he; try dsimp only at he; cases he; exact (ev_add ev_int ((ev_call1 (g := (state14, t4)) 2 rfl (ea_cons (ev_var (S := SA p0) rfl rfl) (ea_cons (ev_var (S := rInt.s K t4) rfl (Sv.mono _ eB (Sv.mono _ xt16 h8))) ea_nil)) rfl (al_p (fun a z => List.mem_of_mem_eraseIdx z) (al_p (fun a z => List.mem_of_mem_eraseIdx z) al_nil)) e22 (csi (imm_flat _))).le g_s)))) (imm_flat _) ⟨csi_pin, ⟨csi (imm_flat _), trivial⟩⟩ (fun q28 B27 H27 x27 n29 w27 => ?_)
      have wp30 := Wd.unpin w27 1 rfl x27
      obtain ⟨row31, e32, hm⟩ := ob hm
      refine s_set 0 rfl wp30 ev_int (ev_var (S := SA q28) rfl rfl) (ev_var (S := rInt.s K place17) rfl (Sv.mono _ x27 hx16)) rfl e32 (fun B33 H33 x33 w33 => ?_)
      obtain ⟨Bz34, xz35, wz36, rz37⟩ := r_oa w33 n29
      obtain ⟨table38, e39, hm⟩ := ob hm
      refine s_drop wz36 (ev_app 0 rfl (ev_var (S := SA q10) rfl rfl) rfl (ev_var (S := (rLst rInt).s K row31) rfl rz37) rfl e39) (fun B40 H40 x40 w40 => ?_)
      have hq_ := Option.some.inj hm
      subst hq_
      exact hN (state26, table38) _ _ _ hfx (((x27.trans x33).trans xz35).trans x40) w40 ⟨_, _, _, rfl⟩
    · rintro rr σ' B41 H41 x41 w41 ⟨o_4k42, o_5k42, o_6k42, rfl⟩ hm
      try dsimp only
      replace hm := finK_nx hm
      obtain ⟨state14, table15⟩ := rr
      refine s_ret w41 (ev_var (S := SA q10) rfl rfl) (fun vv B43 H43 x43 w43 hv => ?_)
      cases (show vv = _ from hv)
      cases hm
      obtain ⟨Bz, xz, w44, rz⟩ := r_oa w43 n11
      obtain ⟨oz, gz1, _, gz3, gz4⟩ := w44.cell.get (i := 0) rfl rfl
      exact k _ _ _ oz w44.st w44.ex gz1 gz3 gz4 rz
def m__law_bent_tolls : (List Int) × (List (List Int)) → Option ((List (List Int)) × (List Int)) := fun (state, table) =>
  (m__law_copy table).bind fun r4 =>
  (m__law_draw (state, (6 : Int))).bind fun (r12, state14) =>
  cond (decide (r12 = (0 : Int))) ((m__law_draw (state14, (20 : Int))).bind fun (r16, state18) =>
  (m__law_draw (state18, (3 : Int))).bind fun (r19, state21) =>
  (atI [(0 : Int), (17 : Int), ((18 : Int) + r16)] r19).bind fun t22 =>
  (rngO (0 : Int) t22).bind fun xs27 =>
  (lcO (fun (place : Int) (rr : Unit) => match rr with | () => some (true, ())) (fun (place : Int) (rr : Unit) => match rr with | () => (repO [(1 : Int)] place).bind fun t29 => (catO t29 [(0 : Int)]).bind fun t33 => (repO [(1 : Int)] (t22 - place)).bind fun t34 => (catO t33 t34).bind fun t38 => some (t38, ())) xs27 ()).bind fun (ys39, _) =>
  some (ys39, state21)) ((m__law_draw (state14, (2 : Int))).bind fun (r42, state44) =>
  (rngO (0 : Int) ((1 : Int) + r42)).bind fun xs45 =>
  finK (fun (rr : (List Int) × (List (List Int))) => match rr with | (state47, bent48) => (some (bent48, state47))) (fun (_ : Unit) => none) (forL (fun (turn50 : Int) (rr : (List Int) × (List (List Int))) => (match rr with | (state47, bent48) => ((m__law_draw (state47, (table.length : Int))).bind fun (r51, state53) =>
  (m__law_draw (state53, ((table.length : Int) + (1 : Int)))).bind fun (r57, state59) =>
  (m__law_draw (state59, (6 : Int))).bind fun (r63, state65) =>
  (rowO bent48 r51).bind fun (j69, row70) =>
  (cond (decide (r63 = (0 : Int))) ((appO row70 (1 : Int)).bind fun row84 =>
  some (state65, (bent48.set j69 row84), r57, row84)) (cond (decide (r63 = (1 : Int))) ((popO row70).bind fun (r91, row92) =>
  some (state65, (bent48.set j69 row92), r57, row92)) (cond (decide (r57 < (row70.length : Int))) ((cond (decide (r63 = (2 : Int))) (some r51) (some r57)).bind fun x_end100 =>
  (m__law_draw (state65, (8 : Int))).bind fun (r106, state108) =>
  (atI [(0 : Int), (1000001 : Int), (-(1 : Int)), (0 : Int), (1000001 : Int), (1 : Int), (1000000 : Int), (2000000 : Int)] r106).bind fun t109 =>
  (setO row70 x_end100 t109).bind fun row111 =>
  some (state108, (bent48.set j69 row111), x_end100, row111)) (some (state65, bent48, r57, row70))))).bind fun (state80, bent81, x_end82, row83) =>
  some (.nx (state80, bent81))) : Option (Ctl ((List Int) × (List (List Int))) Unit))) xs45 (state44, r4)))
def p__law_bent_tolls (K : Fg) : Sp := Pr1a K (fun (g : (List Int) × (List (List Int))) p => [SA p, (rLst (rLst rInt)).s K g.2]) (fun g => CL rInt K g.1) m__law_bent_tolls (fun e => CL rInt K e) (rLst (rLst rInt))
abbrev N__law_bent_tolls : List Str := ["state", "table", "size", "bent", "many", "place", "turn", "end", "kind", "row"]
theorem sc__law_bent_tolls : FnScope N__law_bent_tolls ["state", "table"] (defScope s__law_bent_tolls) := ⟨rfl, rfl, rfl, by decide +kernel, rfl, by decide +kernel, by decide +kernel⟩
theorem ok__law_bent_tolls {P : Program} {w : World} {K : Fg} {mg : Str → Option Value} {base : Heap} (T : Tx P K mg) {fd : FuncData} (F : FnP K "_law_bent_tolls" s__law_bent_tolls (He.ga K "_law_bent_tolls") fd) : FnOk P w K mg base (L2.CX P w) 2 (He.ga K "_law_bent_tolls") fd ["state", "table"] (p__law_bent_tolls K) := by
  obtain ⟨fd__law_copy, F__law_copy⟩ := T.f__law_copy
  have G__law_copy : FnOk P w K mg base (L2.CX P w) 1 (He.ga K "_law_copy") fd__law_copy ["table"] (p__law_copy K) := ok__law_copy T F__law_copy
  have b__law_copy : Binds K fd__law_copy ["table"] [] := F__law_copy.bindsN fun _ _ _ _ _ _ us hl => match us, hl with | [_], _ => rfl
  obtain ⟨fd__law_draw, F__law_draw⟩ := T.f__law_draw
  have G__law_draw : FnOk P w K mg base (L2.CX P w) 1 (He.ga K "_law_draw") fd__law_draw ["state", "many"] (p__law_draw K) := ok__law_draw T F__law_draw
  have b__law_draw : Binds K fd__law_draw ["state", "many"] [] := F__law_draw.bindsN fun _ _ _ _ _ _ us hl => match us, hl with | [_, _], _ => rfl
  have sc := sc__law_bent_tolls
  refine F.ok sc (fun vs H Q E h => ?_) (fun cdv A outer s H vs Q E hr h => ?_)
  · obtain ⟨g, p, z, B, o, ss, _⟩ := h
    exact (Paired.length ss).trans rfl
  · obtain ⟨⟨state, table⟩, p0, z, B, o, ss, ex, h1, h2, h3, h4, hm, k⟩ := h
    obtain ⟨v0, v1, rfl, z0, z1⟩ := pn2 ss
    cases (show _ = V.ref p0 from z0)
    refine ⟨_, (pss_cons (ps_set (i := 2) sc.nd rfl (Or.inl rfl) (pe_callB (clen (K := K) rfl) (by rfl) T.b_len (by decide +kernel) (pa_cons (pv 1) pa_nil))) (pss_cons (ps_set (i := 3) sc.nd rfl (Or.inl rfl) (pe_call G__law_copy (hr.mono (by decide)) (by rfl) T.m__law_copy F__law_copy.kp b__law_copy .nil passL (pa_cons (pv 1) pa_nil))) (pss_cons (ps_if (pt_cmpR op_eq (pe_call G__law_draw (hr.mono (by decide)) (by rfl) T.m__law_draw F__law_draw.kp b__law_draw .nil passL (pa_cons (pv 0) (pa_cons pe_int pa_nil))) pe_int (nomark _)) (pss_cons (ps_set (i := 4) sc.nd rfl (Or.inr rfl) (pe_ix (ixl (K := K) rfl) (pe_lst (pa_cons pe_int (pa_cons pe_int (pa_cons (pe_op op_add pe_int (pe_call G__law_draw (hr.mono (by decide)) (by rfl) T.m__law_draw F__law_draw.kp b__law_draw .nil passL (pa_cons (pv 0) (pa_cons pe_int pa_nil)))) pa_nil)))) (pe_call G__law_draw (hr.mono (by decide)) (by rfl) T.m__law_draw F__law_draw.kp b__law_draw .nil passL (pa_cons (pv 0) (pa_cons pe_int pa_nil))) (fun _ _ => rfl))) (pss_one (ps_ret (pe_lc (own := [("place", 5)]) (g := (gName 5)) (by rfl) sc.nd (pi_range1 (by rfl) T.b_range (pa_cons (pv 4) pa_nil)) (blkOk_by (own := [("place", 5)]) (N := N__law_bent_tolls) (sc := defScope s__law_bent_tolls) (by decide +kernel)) (fun _ _ _ _ _ => pg_name (i := 5) sc.nd rfl (Or.inl rfl)) (fun _ _ _ _ _ => pts_nil) (fun _ _ _ _ _ => (pe_op op_cat (pe_op op_cat (pe_op op_rep (pe_lst (pa_cons pe_int pa_nil)) (pv 5)) (pe_lst (pa_cons pe_int pa_nil))) (pe_op op_rep (pe_lst (pa_cons pe_int pa_nil)) (pe_op op_sub (pv 4) (pv 5))))))))) pss_nil) (pss_cons (ps_for (passes_of rfl) rfl (pi_range1 (by rfl) T.b_range (pa_cons (pe_op op_add pe_int (pe_call G__law_draw (hr.mono (by decide)) (by rfl) T.m__law_draw F__law_draw.kp b__law_draw .nil passL (pa_cons (pv 0) (pa_cons pe_int pa_nil)))) pa_nil)) (pg_name (i := 6) sc.nd rfl (Or.inl rfl)) (pss_cons (ps_set (i := 5) sc.nd rfl (Or.inl rfl) (pe_call G__law_draw (hr.mono (by decide)) (by rfl) T.m__law_draw F__law_draw.kp b__law_draw .nil passL (pa_cons (pv 0) (pa_cons (pv 2) pa_nil)))) (pss_cons (ps_set (i := 7) sc.nd rfl (Or.inl rfl) (pe_call G__law_draw (hr.mono (by decide)) (by rfl) T.m__law_draw F__law_draw.kp b__law_draw .nil passL (pa_cons (pv 0) (pa_cons (pe_op op_add (pv 2) pe_int) pa_nil)))) (pss_cons (ps_set (i := 8) sc.nd rfl (Or.inl rfl) (pe_call G__law_draw (hr.mono (by decide)) (by rfl) T.m__law_draw F__law_draw.kp b__law_draw .nil passL (pa_cons (pv 0) (pa_cons pe_int pa_nil)))) (pss_cons (ps_set (i := 9) sc.nd rfl (Or.inl rfl) (pe_ix (ixl (K := K) rfl) (pv 3) (pv 5) (fun _ _ => rfl))) (pss_one (ps_if (pt_cmpR op_eq (pv 8) pe_int (nomark _)) (pss_one (ps_expr (pe_bm PySem.F.plainAttrs_list PySem.F.slot_list_append PySem.F.type_list_append mt_append (pv 9) (pa_cons pe_int pa_nil)))) (pss_one (ps_if (pt_cmpR op_eq (pv 8) pe_int (nomark _)) (pss_one (ps_expr (pe_bm0 PySem.F.plainAttrs_list PySem.F.slot_list_pop PySem.F.type_list_pop mt_pop (pv 9)))) (pss_one (ps_if (pt_cmpR op_lt (pv 7) (pe_callB (clen (K := K) rfl) (by rfl) T.b_len (by decide +kernel) (pa_cons (pv 9) pa_nil)) (nomark _)) (pss_cons (ps_if (pt_cmpR op_eq (pv 8) pe_int (nomark _)) (pss_one (ps_set (i := 7) sc.nd rfl (Or.inl rfl) (pv 5))) pss_nil) (pss_one (ps_asg (pe_ix (ixl (K := K) rfl) (pe_lst (pa_cons pe_int (pa_cons pe_int (pa_cons (pe_un un_neg pe_int) (pa_cons pe_int (pa_cons pe_int (pa_cons pe_int (pa_cons pe_int (pa_cons pe_int pa_nil))))))))) (pe_call G__law_draw (hr.mono (by decide)) (by rfl) T.m__law_draw F__law_draw.kp b__law_draw .nil passL (pa_cons (pv 0) (pa_cons pe_int pa_nil))) (fun _ _ => rfl)) (pg_sub (pv 9) (pv 7) set_list)))) pss_nil))))))))))) (pss_one (ps_ret (pv 3))))))), ?_⟩
    have w := Wd.start1 (K := K) ex h1 h2 h3 h4
    unfold m__law_bent_tolls at hm
    refine s_asg w (ev_len (ev_var (S := (rLst (rLst rInt)).s K table) rfl z1) src_p) (fun v_2 B1 H1 x1 w1 h3 => ?_)
    obtain ⟨r4, e5, hm⟩ := ob hm
    refine s_ownT w1 (ev_call0 (g := table) (ea_cons (ev_var (S := (rLst (rLst rInt)).s K table) rfl (Sv.mono _ x1 z1)) ea_nil) (al_p (fun _ z => z) al_nil) e5) ⟨csi (imm_flat _), trivial⟩ (fun q7 rs8 B6 H6 x6 hl11 n9 nr10 w6 => ?_)
    obtain ⟨⟨r12, state14⟩, e13, hm⟩ := ob hm
    try dsimp only at hm
    try dsimp only
    refine s_if w6 (et_test (ev_eqI ((ev_call1 (g := (state, (6 : Int))) 0 rfl (ea_cons (ev_var (S := SA p0) rfl rfl) (ea_cons ev_int ea_nil)) rfl (al_p (fun a z => List.mem_of_mem_eraseIdx z) (al_p (fun a z => List.mem_of_mem_eraseIdx z) al_nil)) e13 (csi (imm_flat _))).le g_s) ev_int)) (fun hb B15 H15 x15 w15 => ?_) (fun hb B15 H15 x15 w15 => ?_)
    · have hm := it hb hm
      obtain ⟨⟨r16, state18⟩, e17, hm⟩ := ob hm
      try dsimp only at hm
      obtain ⟨⟨r19, state21⟩, e20, hm⟩ := ob hm
      try dsimp only at hm
      obtain ⟨t22, e23, hm⟩ := ob hm
      refine s_asg w15 (ev_ix (ev_lst (R := rInt) (xs := [(0 : Int), (17 : Int), ((18 : Int) + r16)]) (ea_cons ev_int (ea_cons ev_int (ea_cons (ev_add ev_int ((ev_call1 (g := (state14, (20 : Int))) 0 rfl (ea_cons (ev_var (S := SA p0) rfl rfl) (ea_cons ev_int ea_nil)) rfl (al_p (fun a z => List.mem_of_mem_eraseIdx z) (al_p (fun a z => List.mem_of_mem_eraseIdx z) al_nil)) e17 (csi (imm_flat _))).le g_s)) ea_nil))) (by show 3 ≤ 1000; decide)) ((ev_call1 (g := (state18, (3 : Int))) 0 rfl (ea_cons (ev_var (S := SA p0) rfl rfl) (ea_cons ev_int ea_nil)) rfl (al_p (fun a z => List.mem_of_mem_eraseIdx z) (al_p (fun a z => List.mem_of_mem_eraseIdx z) al_nil)) e20 (csi (imm_flat _))).le g_s) src_n e23) (fun v_25 B24 H24 x24 w24 h26 => ?_)
      obtain ⟨xs27, e28, hm⟩ := ob hm
      obtain ⟨⟨ys39, _⟩, e40, hm⟩ := ob hm
      try dsimp only at hm
      refine s_ret w24 (ev_lc (R := rInt) (R' := (rLst rInt)) (oo := (fun (rr : Unit) => (CL rInt K state21 :: CO rs8 :: List.map (CL rInt K) r4))) (fun (place : Int) (rr : Unit) => match rr with | () => some (true, ())) (fun (place : Int) (rr : Unit) => match rr with | () => (repO [(1 : Int)] place).bind fun t29 => (catO t29 [(0 : Int)]).bind fun t33 => (repO [(1 : Int)] (t22 - place)).bind fun t34 => (catO t33 t34).bind fun t38 => some (t38, ())) (lcT rInt K _ 5 [5]) (ei_r1 (ev_var (S := rInt.s K t22) rfl h26) e28) e40 (lcT_mono _ _ _ _ _) (lcT_name rfl 5 [5] (by intro x; rfl)) (fun place rr bb r1 σ2 B' pD acc ht eB ⟨vx, hσ, hx⟩ => by cases ht; exact et_yes) (fun place rr yy r1 σ2 B' pD acc he eB ⟨vx, hσ, hx⟩ => by subst hσ; obtain ⟨t29, e30, he⟩ := ob he; obtain ⟨t33, e31, he⟩ := ob he; obtain ⟨t34, e35, he⟩ := ob he; obtain ⟨t38, e36, he⟩ := ob he; cases he; exact ((ev_catO (ev_catO (ev_rep (ev_lst (R := rInt) (xs := [(1 : Int)]) (ea_cons ev_int ea_nil) (by show 1 ≤ 1000; decide)) (ev_var (S := rInt.s K place) rfl hx) src_n e30) (ev_lst (R := rInt) (xs := [(0 : Int)]) (ea_cons ev_int ea_nil) (by show 1 ≤ 1000; decide)) src_n src_n e31) (ev_rep (ev_lst (R := rInt) (xs := [(1 : Int)]) (ea_cons ev_int ea_nil) (by show 1 ≤ 1000; decide)) (ev_sub (ev_var (S := rInt.s K t22) rfl (Sv.mono _ eB h26)) (ev_var (S := rInt.s K place) rfl hx)) src_n e35) src_n src_n e36).le sn_s))) (fun vv B41 H41 x41 w41 hv => ?_)
      cases hm
      obtain ⟨oz, gz1, _, gz3, gz4⟩ := w41.cell.get (i := 0) rfl rfl
      exact k _ _ _ oz w41.st w41.ex gz1 gz3 gz4 (sn_s _ _ hv)
    · have hm := ie hb hm
      obtain ⟨⟨r42, state44⟩, e43, hm⟩ := ob hm
      try dsimp only at hm
      obtain ⟨xs45, e46, hm⟩ := ob hm
      refine s_for (R := rInt) (oo := (fun (rr : (List Int) × (List (List Int))) => (CL rInt K rr.1 :: CO rs8 :: List.map (CL rInt K) rr.2))) (ρ0 := (state44, r4)) (fun (turn50 : Int) (rr : (List Int) × (List (List Int))) => (match rr with | (state47, bent48) => ((m__law_draw (state47, (table.length : Int))).bind fun (r51, state53) =>
(m__law_draw (state53, ((table.length : Int) + (1 : Int)))).bind fun (r57, state59) =>
(m__law_draw (state59, (6 : Int))).bind fun (r63, state65) =>
(rowO bent48 r51).bind fun (j69, row70) =>
(cond (decide (r63 = (0 : Int))) ((appO row70 (1 : Int)).bind fun row84 =>
some (state65, (bent48.set j69 row84), r57, row84)) (cond (decide (r63 = (1 : Int))) ((popO row70).bind fun (r91, row92) =>
some (state65, (bent48.set j69 row92), r57, row92)) (cond (decide (r57 < (row70.length : Int))) ((cond (decide (r63 = (2 : Int))) (some r51) (some r57)).bind fun x_end100 =>
(m__law_draw (state65, (8 : Int))).bind fun (r106, state108) =>
(atI [(0 : Int), (1000001 : Int), (-(1 : Int)), (0 : Int), (1000001 : Int), (1 : Int), (1000000 : Int), (2000000 : Int)] r106).bind fun t109 =>
(setO row70 x_end100 t109).bind fun row111 =>
some (state108, (bent48.set j69 row111), x_end100, row111)) (some (state65, bent48, r57, row70))))).bind fun (state80, bent81, x_end82, row83) =>
some (.nx (state80, bent81))) : Option (Ctl ((List Int) × (List (List Int))) Unit))) (fun (rr : (List Int) × (List (List Int))) σ' B' => ∃ o_4 : Option V, ∃ o_5 : Option V, ∃ o_6 : Option V, ∃ o_7 : Option V, ∃ o_8 : Option V, ∃ o_9 : Option V, σ' = [some (.ref p0), some v1, some v_2, some (.ref q7), o_4, o_5, o_6, o_7, o_8, o_9] ∧ rs8.length = rr.2.length) (fun zz => finK _ _ zz = some _) w15 (ei_r1 (ev_add ev_int ((ev_call1 (g := (state14, (2 : Int))) 0 rfl (ea_cons (ev_var (S := SA p0) rfl rfl) (ea_cons ev_int ea_nil)) rfl (al_p (fun a z => List.mem_of_mem_eraseIdx z) (al_p (fun a z => List.mem_of_mem_eraseIdx z) al_nil)) e43 (csi (imm_flat _))).le g_s)) e46) (fun rr σ' B1 B2 e ⟨o_4, o_5, o_6, o_7, o_8, o_9, hσ, hj0⟩ => ⟨o_4, o_5, o_6, o_7, o_8, o_9, hσ, hj0⟩) (fun B2 e => ⟨_, _, _, _, _, _, rfl, hl11⟩) hm ?_ ?_
      · rintro turn50 rst rr vx49 σ' Bt49 Ht49 xt49 wt49 ⟨o_4t49, o_5t49, o_6t49, o_7t49, o_8t49, o_9t49, rfl, hj0t49⟩ hx49 hf N hN dn
        dsimp only [gName]
        obtain ⟨state47, bent48⟩ := rr
        obtain ⟨ctl, hfx, hbk49, hrt49⟩ := forL_step hf
        have hm := hfx
        obtain ⟨⟨r51, state53⟩, e52, hm⟩ := ob hm
        try dsimp only at hm
        refine s_asg wt49 ((ev_call1 (g := (state47, (table.length : Int))) 0 rfl (ea_cons (ev_var (S := SA p0) rfl rfl) (ea_cons (ev_var (S := rInt.s K (table.length : Int)) rfl (Sv.mono _ xt49 (Sv.mono _ x15 (Sv.mono _ x6 h3)))) ea_nil)) rfl (al_p (fun a z => List.mem_of_mem_eraseIdx z) (al_p (fun a z => List.mem_of_mem_eraseIdx z) al_nil)) e52 (csi (imm_flat _))).le g_s) (fun v_55 B54 H54 x54 w54 h56 => ?_)
        obtain ⟨⟨r57, state59⟩, e58, hm⟩ := ob hm
        try dsimp only at hm
        refine s_asg w54 ((ev_call1 (g := (state53, ((table.length : Int) + (1 : Int)))) 0 rfl (ea_cons (ev_var (S := SA p0) rfl rfl) (ea_cons (ev_add (ev_var (S := rInt.s K (table.length : Int)) rfl (Sv.mono _ x54 (Sv.mono _ xt49 (Sv.mono _ x15 (Sv.mono _ x6 h3))))) ev_int) ea_nil)) rfl (al_p (fun a z => List.mem_of_mem_eraseIdx z) (al_p (fun a z => List.mem_of_mem_eraseIdx z) al_nil)) e58 (csi (imm_flat _))).le g_s) (fun v_61 B60 H60 x60 w60 h62 => ?_)
        obtain ⟨⟨r63, state65⟩, e64, hm⟩ := ob hm
        try dsimp only at hm
        refine s_asg w60 ((ev_call1 (g := (state59, (6 : Int))) 0 rfl (ea_cons (ev_var (S := SA p0) rfl rfl) (ea_cons ev_int ea_nil)) rfl (al_p (fun a z => List.mem_of_mem_eraseIdx z) (al_p (fun a z => List.mem_of_mem_eraseIdx z) al_nil)) e64 (csi (imm_flat _))).le g_s) (fun v_67 B66 H66 x66 w66 h68 => ?_)
        obtain ⟨⟨j69, row70⟩, e71, hm⟩ := ob hm
        obtain ⟨hj73, hr74⟩ := rowO_eq e71
        obtain ⟨q72, hq75⟩ := rs_at hj0t49 hr74
        try dsimp only at hm
        refine s_asg w66 (ev_row 1 rfl (ev_var (S := SA q7) rfl rfl) (ev_var (S := rInt.s K r51) rfl (Sv.mono _ x66 (Sv.mono _ x60 h56))) rfl hj0t49 hj73 hq75) (fun v_77 B76 H76 x76 w76 h78 => ?_)
        cases (show v_77 = _ from h78)
        obtain ⟨rj, hA120, hm⟩ := ob hm
        refine s_ifJ (ks2 := (p0 :: q7 :: rs8)) (oo := (fun (rr : (List Int) × (List (List Int)) × Int × (List Int)) => (CL rInt K rr.1 :: CO rs8 :: List.map (CL rInt K) rr.2.1))) (fun (rr : (List Int) × (List (List Int)) × Int × (List Int)) σ' B' => ∃ o_4 : Option V, ∃ v_7 : V, σ' = [some (.ref p0), some v1, some v_2, some (.ref q7), o_4, some v_55, some vx49, some v_7, some v_67, some (.ref q72)] ∧ rs8.length = rr.2.1.length ∧ (rInt.s K rr.2.2.1).p v_7 B' ∧ rr.2.1[j69]? = some rr.2.2.2) (fun rr => rr = rj) w76 (et_test (ev_eqI (ev_var (S := rInt.s K r63) rfl (Sv.mono _ x76 h68)) ev_int)) ?_ (fun hb B79 H79 x79 w79 N hN => ?_) (fun hb B79 H79 x79 w79 N hN => ?_)
        · rintro rr σ' B118 H118 x118 w118 ⟨o_4k119, v_7k119, rfl, hj0k119, hj1k119, hj2k119⟩ hq
          subst hq
          obtain ⟨state80, bent81, x_end82, row83⟩ := rr
          try dsimp only
          have hq_ := Option.some.inj hm
          subst hq_
          exact hN (state80, bent81) _ _ _ hfx ((((x54.trans x60).trans x66).trans x76).trans x118) w118 ⟨_, _, _, _, _, _, rfl, hj0k119⟩
        · have hm := it hb hA120
          obtain ⟨row84, e85, hm⟩ := ob hm
          refine s_drop w79 (ev_app (j69 + 2) (by simpa using hq75) (ev_var (S := SA q72) rfl rfl) (show _ = some (CL rInt K row70) by simp [hr74, rInt, rTag, rBool]) ev_int (show _ = some (CL rInt K row70) by simp [hr74, rInt, rTag, rBool]) e85) (fun B86 H86 x86 w86 => ?_)
          have w87 := Wd.eq (os' := (CL rInt K state65 :: CO rs8 :: List.map (CL rInt K) (bent48.set j69 row84))) w86 (by simp [List.map_set, rInt, rTag, rBool])
          have hl88 := len_set (j := j69) (y := row84) hj0t49
          have hr89 := set_at (y := row84) hr74
          have hq_ := Option.some.inj hm
          subst hq_
          exact hN (state65, (bent48.set j69 row84), r57, row84) _ _ _ (x79.trans x86) w87 ⟨_, v_61, rfl, hl88, (Sv.mono _ x86 (Sv.mono _ x79 (Sv.mono _ x76 (Sv.mono _ x66 h62)))), hr89⟩ rfl
        · have hm := ie hb hA120
          try dsimp only
          refine s_if w79 (et_test (ev_eqI (ev_var (S := rInt.s K r63) rfl (Sv.mono _ x79 (Sv.mono _ x76 h68))) ev_int)) (fun hb B90 H90 x90 w90 => ?_) (fun hb B90 H90 x90 w90 => ?_)
          · have hm := it hb hm
            obtain ⟨⟨r91, row92⟩, e93, hm⟩ := ob hm
            try dsimp only at hm
            refine s_drop w90 (ev_pop (j69 + 2) (by simpa using hq75) (ev_var (S := SA q72) rfl rfl) (show _ = some (CL rInt K row70) by simp [hr74, rInt, rTag, rBool]) e93) (fun B94 H94 x94 w94 => ?_)
            have w95 := Wd.eq (os' := (CL rInt K state65 :: CO rs8 :: List.map (CL rInt K) (bent48.set j69 row92))) w94 (by simp [List.map_set, rInt, rTag, rBool])
            have hl96 := len_set (j := j69) (y := row92) hj0t49
            have hr97 := set_at (y := row92) hr74
            have hq_ := Option.some.inj hm
            subst hq_
            exact hN (state65, (bent48.set j69 row92), r57, row92) _ _ _ ((x79.trans x90).trans x94) w95 ⟨_, v_61, rfl, hl96, (Sv.mono _ x94 (Sv.mono _ x90 (Sv.mono _ x79 (Sv.mono _ x76 (Sv.mono _ x66 h62))))), hr97⟩ rfl
          · have hm := ie hb hm
            try dsimp only
            refine s_if w90 (et_test (ev_lt (ev_var (S := rInt.s K r57) rfl (Sv.mono _ x90 (Sv.mono _ x79 (Sv.mono _ x76 (Sv.mono _ x66 h62))))) (ev_len (ev_var (S := SA q72) rfl rfl) (src_o (R := rInt) (xs := row70) (j69 + 2) (by simpa using hq75) (show _ = some (CL rInt K row70) by simp [hr74, rInt, rTag, rBool]))))) (fun hb B98 H98 x98 w98 => ?_) (fun hb B98 H98 x98 w98 => ?_)
            · have hm := it hb hm
              obtain ⟨rj, hA117, hm⟩ := ob hm
              refine s_ifJ (ks2 := (p0 :: q7 :: rs8)) (oo := (fun (rr : Int) => (CL rInt K state65 :: CO rs8 :: List.map (CL rInt K) bent48))) (fun (rr : Int) σ' B' => ∃ o_4 : Option V, ∃ v_7 : V, σ' = [some (.ref p0), some v1, some v_2, some (.ref q7), o_4, some v_55, some vx49, some v_7, some v_67, some (.ref q72)] ∧ (rInt.s K rr).p v_7 B') (fun rr => rr = rj) w98 (et_test (ev_eqI (ev_var (S := rInt.s K r63) rfl (Sv.mono _ x98 (Sv.mono _ x90 (Sv.mono _ x79 (Sv.mono _ x76 h68))))) ev_int)) ?_ (fun hb B99 H99 x99 w99 N hN => ?_) (fun hb B99 H99 x99 w99 N hN => ?_)
              · rintro x_end100 σ' B104 H104 x104 w104 ⟨o_4k105, v_7k105, rfl, hj0k105⟩ hq
                subst hq
                try dsimp only
                obtain ⟨⟨r106, state108⟩, e107, hm⟩ := ob hm
                try dsimp only at hm
                obtain ⟨t109, e110, hm⟩ := ob hm
                obtain ⟨row111, e112, hm⟩ := ob hm
                refine s_set (j69 + 2) (by simpa using hq75) w104 (ev_ix (ev_lst (R := rInt) (xs := [(0 : Int), (1000001 : Int), (-(1 : Int)), (0 : Int), (1000001 : Int), (1 : Int), (1000000 : Int), (2000000 : Int)]) (ea_cons ev_int (ea_cons ev_int (ea_cons (ev_neg ev_int) (ea_cons ev_int (ea_cons ev_int (ea_cons ev_int (ea_cons ev_int (ea_cons ev_int ea_nil)))))))) (by show 8 ≤ 1000; decide)) ((ev_call1 (g := (state65, (8 : Int))) 0 rfl (ea_cons (ev_var (S := SA p0) rfl rfl) (ea_cons ev_int ea_nil)) rfl (al_p (fun a z => List.mem_of_mem_eraseIdx z) (al_p (fun a z => List.mem_of_mem_eraseIdx z) al_nil)) e107 (csi (imm_flat _))).le g_s) src_n e110) (ev_var (S := SA q72) rfl rfl) (ev_var (S := rInt.s K x_end100) rfl hj0k105) (show _ = some (CL rInt K row70) by simp [hr74, rInt, rTag, rBool]) e112 (fun B113 H113 x113 w113 => ?_)
                have w114 := Wd.eq (os' := (CL rInt K state108 :: CO rs8 :: List.map (CL rInt K) (bent48.set j69 row111))) w113 (by simp [List.map_set, rInt, rTag, rBool])
                have hl115 := len_set (j := j69) (y := row111) hj0t49
                have hr116 := set_at (y := row111) hr74
                have hq_ := Option.some.inj hm
                subst hq_
                exact hN (state108, (bent48.set j69 row111), x_end100, row111) _ _ _ ((((x79.trans x90).trans x98).trans x104).trans x113) w114 ⟨_, v_7k105, rfl, hl115, (Sv.mono _ x113 hj0k105), hr116⟩ rfl
              · have hm := it hb hA117
                refine s_asg w99 (ev_var (S := rInt.s K r51) rfl (Sv.mono _ x99 (Sv.mono _ x98 (Sv.mono _ x90 (Sv.mono _ x79 (Sv.mono _ x76 (Sv.mono _ x66 (Sv.mono _ x60 h56)))))))) (fun v_102 B101 H101 x101 w101 h103 => ?_)
                have hq_ := Option.some.inj hm
                subst hq_
                exact hN r51 _ _ _ (x99.trans x101) w101 ⟨_, v_102, rfl, h103⟩ rfl
              · have hm := ie hb hA117
                have hq_ := Option.some.inj hm
                subst hq_
                exact hN r57 _ _ _ x99 w99 ⟨_, v_61, rfl, (Sv.mono _ x99 (Sv.mono _ x98 (Sv.mono _ x90 (Sv.mono _ x79 (Sv.mono _ x76 (Sv.mono _ x66 h62))))))⟩ rfl
            · have hm := ie hb hm
              have hq_ := Option.some.inj hm
              subst hq_
              exact hN (state65, bent48, r57, row70) _ _ _ ((x79.trans x90).trans x98) w98 ⟨_, v_61, rfl, hj0t49, (Sv.mono _ x98 (Sv.mono _ x90 (Sv.mono _ x79 (Sv.mono _ x76 (Sv.mono _ x66 h62))))), hr74⟩ rfl
      · rintro rr σ' B121 H121 x121 w121 ⟨o_4k122, o_5k122, o_6k122, o_7k122, o_8k122, o_9k122, rfl, hj0k122⟩ hm
        try dsimp only
        replace hm := finK_nx hm
        obtain ⟨state47, bent48⟩ := rr
        refine s_ret w121 (ev_var (S := SA q7) rfl rfl) (fun vv B123 H123 x123 w123 hv => ?_)
        cases (show vv = _ from hv)
        cases hm
        obtain ⟨Bz, xz, w124, rz⟩ := r_grp (ks := [p0]) (os := [CL rInt K state47]) w123 n9 nr10 rfl
        obtain ⟨oz, gz1, _, gz3, gz4⟩ := w124.cell.get (i := 0) rfl rfl
        exact k _ _ _ oz w124.st w124.ex gz1 gz3 gz4 (rLL.fr rz)
def m__law_wrong_row : (List (List Int)) → Option (Int) := fun table =>
  cond ((decide ((table.length : Int) = (0 : Int))) || (decide ((16 : Int) < (table.length : Int)))) (some (-(1 : Int))) ((rngO (0 : Int) (table.length : Int)).bind fun xs6 =>
  finK (fun (_ : Unit) => (some (-(2 : Int)))) (fun (tt : Int) => some tt) (forL (fun (place9 : Int) (_ : Unit) => ((atI table place9).bind fun t10 =>
  (cond (!decide ((t10.length : Int) = ((table.length : Int) + (1 : Int)))) (some true) ((atI t10 place9).bind fun t15 => some (!decide (t15 = (0 : Int))))).bind fun b17 =>
  cond b17 (some (.rt place9)) ((rngO (0 : Int) ((table.length : Int) + (1 : Int))).bind fun xs21 =>
  finK (fun (_ : Unit) => (some (.nx ()))) (fun (tt : Int) => some (.rt tt)) (forL (fun (x_end24 : Int) (_ : Unit) => ((cond (!decide (x_end24 = place9)) ((atI t10 x_end24).bind fun t25 => some (!(decide ((1 : Int) ≤ t25) && decide (t25 ≤ (1000000 : Int))))) (some false)).bind fun b27 =>
  cond b27 (some (.rt place9)) (some (.nx ())) : Option (Ctl Unit Int))) xs21 ())) : Option (Ctl Unit Int))) xs6 ()))
def p__law_wrong_row (K : Fg) : Sp := Pr0 K (fun (g : (List (List Int))) => [(rLst (rLst rInt)).s K g]) m__law_wrong_row rInt
abbrev N__law_wrong_row : List Str := ["table", "size", "place", "row", "end"]
theorem sc__law_wrong_row : FnScope N__law_wrong_row ["table"] (defScope s__law_wrong_row) := ⟨rfl, rfl, rfl, by decide +kernel, rfl, by decide +kernel, by decide +kernel⟩
theorem ok__law_wrong_row {P : Program} {w : World} {K : Fg} {mg : Str → Option Value} {base : Heap} (T : Tx P K mg) {fd : FuncData} (F : FnP K "_law_wrong_row" s__law_wrong_row (He.ga K "_law_wrong_row") fd) : FnOk P w K mg base (L2.CX P w) 1 (He.ga K "_law_wrong_row") fd ["table"] (p__law_wrong_row K) := by
  have sc := sc__law_wrong_row
  refine F.ok sc (fun vs H Q E h => ?_) (fun cdv A outer s H vs Q E hr h => ?_)
  · obtain ⟨g, z, B, ss, _⟩ := h
    exact (Paired.length ss).trans rfl
  · obtain ⟨table, z, B, ss, ex, hm, k⟩ := h
    obtain ⟨v0, rfl, z0⟩ := pn1 ss
    refine ⟨_, (pss_cons (ps_set (i := 1) sc.nd rfl (Or.inl rfl) (pe_callB (clen (K := K) rfl) (by rfl) T.b_len (by decide +kernel) (pa_cons (pv 0) pa_nil))) (pss_cons (ps_if (PW.pt (pw_or (pt_cmpR op_eq (pv 1) pe_int (nomark _)) (pw_or1 (pt_cmpR op_gt (pv 1) pe_int (nomark _))))) (pss_one (ps_ret (pe_un un_neg pe_int))) pss_nil) (pss_cons (ps_for (passes_of rfl) rfl (pi_range1 (by rfl) T.b_range (pa_cons (pv 1) pa_nil)) (pg_name (i := 2) sc.nd rfl (Or.inl rfl)) (pss_cons (ps_set (i := 3) sc.nd rfl (Or.inl rfl) (pe_ix (ixl (K := K) rfl) (pv 0) (pv 2) (fun _ _ => rfl))) (pss_cons (ps_if (PW.pt (pw_or (pt_cmpR op_ne (pe_callB (clen (K := K) rfl) (by rfl) T.b_len (by decide +kernel) (pa_cons (pv 3) pa_nil)) (pe_op op_add (pv 1) pe_int) (nomark _)) (pw_or1 (pt_cmpR op_ne (pe_ix (ixl (K := K) rfl) (pv 3) (pv 2) (fun _ _ => rfl)) pe_int (nomark _))))) (pss_one (ps_ret (pv 2))) pss_nil) (pss_one (ps_for (passes_of rfl) rfl (pi_range1 (by rfl) T.b_range (pa_cons (pe_op op_add (pv 1) pe_int) pa_nil)) (pg_name (i := 4) sc.nd rfl (Or.inl rfl)) (pss_one (ps_if (PW.pt (pw_and (pt_cmpR op_ne (pv 4) (pv 2) (nomark _)) (pw_and1 (pt_not (pt_chain op_le op_le pe_int (pe_ix (ixl (K := K) rfl) (pv 3) (pv 4) (fun _ _ => rfl)) pe_int))))) (pss_one (ps_ret (pv 2))) pss_nil))))))) (pss_one (ps_ret (pe_un un_neg pe_int)))))), ?_⟩
    have w := Wd.start (K := K) ex
    unfold m__law_wrong_row at hm
    refine s_asg w (ev_len (ev_var (S := (rLst (rLst rInt)).s K table) rfl z0) src_p) (fun v_2 B1 H1 x1 w1 h3 => ?_)
    try dsimp only
    refine s_if w1 (et_or (et_test (ev_eqI (ev_var (S := rInt.s K (table.length : Int)) rfl h3) ev_int)) (fun _ => (et_test (ev_gt (ev_var (S := rInt.s K (table.length : Int)) rfl h3) ev_int))) (fun _ => rfl)) (fun hb B4 H4 x4 w4 => ?_) (fun hb B4 H4 x4 w4 => ?_)
    · have hm := it hb hm
      refine s_ret w4 (ev_neg ev_int) (fun vv B5 H5 x5 w5 hv => ?_)
      cases hm
      exact k _ _ _ w5.st w5.ex ((imm_flat _) _ _ _ _ _ hv)
    · have hm := ie hb hm
      obtain ⟨xs6, e7, hm⟩ := ob hm
      refine s_for (R := rInt) (oo := (fun (rr : Unit) => [])) (ρ0 := ()) (fun (place9 : Int) (_ : Unit) => ((atI table place9).bind fun t10 =>
(cond (!decide ((t10.length : Int) = ((table.length : Int) + (1 : Int)))) (some true) ((atI t10 place9).bind fun t15 => some (!decide (t15 = (0 : Int))))).bind fun b17 =>
cond b17 (some (.rt place9)) ((rngO (0 : Int) ((table.length : Int) + (1 : Int))).bind fun xs21 =>
finK (fun (_ : Unit) => (some (.nx ()))) (fun (tt : Int) => some (.rt tt)) (forL (fun (x_end24 : Int) (_ : Unit) => ((cond (!decide (x_end24 = place9)) ((atI t10 x_end24).bind fun t25 => some (!(decide ((1 : Int) ≤ t25) && decide (t25 ≤ (1000000 : Int))))) (some false)).bind fun b27 =>
cond b27 (some (.rt place9)) (some (.nx ())) : Option (Ctl Unit Int))) xs21 ())) : Option (Ctl Unit Int))) (fun (_ : Unit) σ' B' => ∃ o_2 : Option V, ∃ o_3 : Option V, ∃ o_4 : Option V, σ' = [some v0, some v_2, o_2, o_3, o_4]) (fun zz => finK _ _ zz = some _) w4 (ei_r1 (ev_var (S := rInt.s K (table.length : Int)) rfl (Sv.mono _ x4 h3)) e7) (fun rr σ' B1 B2 e ⟨o_2, o_3, o_4, hσ⟩ => ⟨o_2, o_3, o_4, hσ⟩) (fun B2 e => ⟨_, _, _, rfl⟩) hm ?_ ?_
      · rintro place9 rst rr vx8 σ' Bt8 Ht8 xt8 wt8 ⟨o_2t8, o_3t8, o_4t8, rfl⟩ hx8 hf N hN dn
        dsimp only [gName]
        obtain ⟨ctl, hfx, hbk8, hrt8⟩ := forL_step hf
        have hm := hfx
        obtain ⟨t10, e11, hm⟩ := ob hm
        refine s_asg wt8 (ev_ix (ev_var (S := (rLst (rLst rInt)).s K table) rfl (Sv.mono _ xt8 (Sv.mono _ x4 (Sv.mono _ x1 z0)))) (ev_var (S := rInt.s K place9) rfl hx8) src_p e11) (fun v_13 B12 H12 x12 w12 h14 => ?_)
        obtain ⟨b17, e18, hm⟩ := ob hm
        try dsimp only
        refine s_if w12 (et_orO (b := b17) (et_test (ev_neI (ev_len (ev_var (S := (rLst rInt).s K t10) rfl h14) src_p) (ev_add (ev_var (S := rInt.s K (table.length : Int)) rfl (Sv.mono _ x12 (Sv.mono _ xt8 (Sv.mono _ x4 h3)))) ev_int))) (fun hc => by have e18 := ie hc e18; obtain ⟨t15, e16, e18⟩ := ob e18; have hq_ := Option.some.inj e18; subst hq_; exact (et_test (ev_neI (ev_ix (ev_var (S := (rLst rInt).s K t10) rfl h14) (ev_var (S := rInt.s K place9) rfl (Sv.mono _ x12 hx8)) src_p e16) ev_int))) (fun hc => by have e18 := it hc e18; cases e18; exact ⟨rfl, rfl⟩)) (fun hb B19 H19 x19 w19 => ?_) (fun hb B19 H19 x19 w19 => ?_)
        · have hm := it hb hm
          refine s_ret w19 (ev_var (S := rInt.s K place9) rfl (Sv.mono _ x19 (Sv.mono _ x12 hx8))) (fun vv B20 H20 x20 w20 hv => ?_)
          cases hm
          replace hm := hrt8 _ rfl
          cases hm
          exact k _ _ _ w20.st w20.ex ((imm_flat _) _ _ _ _ _ hv)
        · have hm := ie hb hm
          obtain ⟨xs21, e22, hm⟩ := ob hm
          refine s_for (R := rInt) (oo := (fun (rr : Unit) => [])) (ρ0 := ()) (fun (x_end24 : Int) (_ : Unit) => ((cond (!decide (x_end24 = place9)) ((atI t10 x_end24).bind fun t25 => some (!(decide ((1 : Int) ≤ t25) && decide (t25 ≤ (1000000 : Int))))) (some false)).bind fun b27 =>
cond b27 (some (.rt place9)) (some (.nx ())) : Option (Ctl Unit Int))) (fun (_ : Unit) σ' B' => ∃ o_4 : Option V, σ' = [some v0, some v_2, some vx8, some v_13, o_4]) (fun zz => finK _ _ zz = some _) w19 (ei_r1 (ev_add (ev_var (S := rInt.s K (table.length : Int)) rfl (Sv.mono _ x19 (Sv.mono _ x12 (Sv.mono _ xt8 (Sv.mono _ x4 h3))))) ev_int) e22) (fun rr σ' B1 B2 e ⟨o_4, hσ⟩ => ⟨o_4, hσ⟩) (fun B2 e => ⟨_, rfl⟩) hm ?_ ?_
          · rintro x_end24 rst rr vx23 σ' Bt23 Ht23 xt23 wt23 ⟨o_4t23, rfl⟩ hx23 hf N hN dn
            dsimp only [gName]
            obtain ⟨ctl, hfx, hbk23, hrt23⟩ := forL_step hf
            have hm := hfx
            obtain ⟨b27, e28, hm⟩ := ob hm
            try dsimp only
            refine s_if wt23 (et_andO (b := b27) (et_test (ev_neI (ev_var (S := rInt.s K x_end24) rfl hx23) (ev_var (S := rInt.s K place9) rfl (Sv.mono _ xt23 (Sv.mono _ x19 (Sv.mono _ x12 hx8)))))) (fun hc => by have e28 := it hc e28; obtain ⟨t25, e26, e28⟩ := ob e28; have hq_ := Option.some.inj e28; subst hq_; exact (et_not (et_test (ev_ch_le_le ev_int (ev_ix (ev_var (S := (rLst rInt).s K t10) rfl (Sv.mono _ xt23 (Sv.mono _ x19 h14))) (ev_var (S := rInt.s K x_end24) rfl hx23) src_p e26) ev_int)))) (fun hc => by have e28 := ie hc e28; cases e28; exact ⟨rfl, rfl⟩)) (fun hb B29 H29 x29 w29 => ?_) (fun hb B29 H29 x29 w29 => ?_)
            · have hm := it hb hm
              refine s_ret w29 (ev_var (S := rInt.s K place9) rfl (Sv.mono _ x29 (Sv.mono _ xt23 (Sv.mono _ x19 (Sv.mono _ x12 hx8))))) (fun vv B30 H30 x30 w30 hv => ?_)
              cases hm
              replace hm := hrt23 _ rfl
              cases hm
              replace hm := hrt8 _ rfl
              cases hm
              exact k _ _ _ w30.st w30.ex ((imm_flat _) _ _ _ _ _ hv)
            · have hm := ie hb hm
              have hq_ := Option.some.inj hm
              subst hq_
              exact hN () _ _ _ hfx x29 w29 ⟨_, rfl⟩
          · rintro rr σ' B31 H31 x31 w31 ⟨o_4k32, rfl⟩ hm
            try dsimp only
            replace hm := finK_nx hm
            have hq_ := Option.some.inj hm
            subst hq_
            exact hN () _ _ _ hfx ((x12.trans x19).trans x31) w31 ⟨_, _, _, rfl⟩
      · rintro rr σ' B33 H33 x33 w33 ⟨o_2k34, o_3k34, o_4k34, rfl⟩ hm
        try dsimp only
        replace hm := finK_nx hm
        refine s_ret w33 (ev_neg ev_int) (fun vv B35 H35 x35 w35 hv => ?_)
        cases hm
        exact k _ _ _ w35.st w35.ex ((imm_flat _) _ _ _ _ _ hv)
def m__law_road_due : (List (List Int)) × Int × Int → Option (Tag × Int) := fun (table, place, x_end) =>
  cond (!(decide ((0 : Int) ≤ place) && decide (place < (table.length : Int)))) (some (tg_place, place)) (cond ((decide (x_end = place)) || (!(decide ((-(1 : Int)) ≤ x_end) && decide (x_end < (table.length : Int))))) (some (tg_place, x_end)) ((atI table place).bind fun t8 =>
  (atI t8 x_end).bind fun t10 =>
  some (tg_toll, t10)))
def p__law_road_due (K : Fg) : Sp := Pr0 K (fun (g : (List (List Int)) × Int × Int) => [(rLst (rLst rInt)).s K g.1, rInt.s K g.2.1, rInt.s K g.2.2]) m__law_road_due (rT2 rTag rInt)
abbrev N__law_road_due : List Str := ["table", "place", "end", "size"]
theorem sc__law_road_due : FnScope N__law_road_due ["table", "place", "end"] (defScope s__law_road_due) := ⟨rfl, rfl, rfl, by decide +kernel, rfl, by decide +kernel, by decide +kernel⟩
theorem ok__law_road_due {P : Program} {w : World} {K : Fg} {mg : Str → Option Value} {base : Heap} (T : Tx P K mg) {fd : FuncData} (F : FnP K "_law_road_due" s__law_road_due (He.ga K "_law_road_due") fd) : FnOk P w K mg base (L2.CX P w) 1 (He.ga K "_law_road_due") fd ["table", "place", "end"] (p__law_road_due K) := by
  have sc := sc__law_road_due
  refine F.ok sc (fun vs H Q E h => ?_) (fun cdv A outer s H vs Q E hr h => ?_)
  · obtain ⟨g, z, B, ss, _⟩ := h
    exact (Paired.length ss).trans rfl
  · obtain ⟨⟨table, place, x_end⟩, z, B, ss, ex, hm, k⟩ := h
    obtain ⟨v0, v1, v2, rfl, z0, z1, z2⟩ := pn3 ss
    refine ⟨_, (pss_cons (ps_set (i := 3) sc.nd rfl (Or.inl rfl) (pe_callB (clen (K := K) rfl) (by rfl) T.b_len (by decide +kernel) (pa_cons (pv 0) pa_nil))) (pss_cons (ps_if (pt_not (pt_chain op_le op_lt pe_int (pv 1) (pv 3))) (pss_one (ps_ret (pe_tup (pa_cons pe_str (pa_cons (pv 1) pa_nil))))) pss_nil) (pss_cons (ps_if (PW.pt (pw_or (pt_cmpR op_eq (pv 2) (pv 1) (nomark _)) (pw_or1 (pt_not (pt_chain op_le op_lt (pe_un un_neg pe_int) (pv 2) (pv 3)))))) (pss_one (ps_ret (pe_tup (pa_cons pe_str (pa_cons (pv 2) pa_nil))))) pss_nil) (pss_one (ps_ret (pe_tup (pa_cons pe_str (pa_cons (pe_ix (ixl (K := K) rfl) (pe_ix (ixl (K := K) rfl) (pv 0) (pv 1) (fun _ _ => rfl)) (pv 2) (fun _ _ => rfl)) pa_nil)))))))), ?_⟩
    have w := Wd.start (K := K) ex
    unfold m__law_road_due at hm
    refine s_asg w (ev_len (ev_var (S := (rLst (rLst rInt)).s K table) rfl z0) src_p) (fun v_2 B1 H1 x1 w1 h3 => ?_)
    try dsimp only
    refine s_if w1 (et_not (et_test (ev_ch_le_lt ev_int (ev_var (S := rInt.s K place) rfl (Sv.mono _ x1 z1)) (ev_var (S := rInt.s K (table.length : Int)) rfl h3)))) (fun hb B4 H4 x4 w4 => ?_) (fun hb B4 H4 x4 w4 => ?_)
    · have hm := it hb hm
      refine s_ret w4 (ev_T2 (ea_cons (ev_tag tg_place) (ea_cons (ev_var (S := rInt.s K place) rfl (Sv.mono _ x4 (Sv.mono _ x1 z1))) ea_nil))) (fun vv B5 H5 x5 w5 hv => ?_)
      cases hm
      exact k _ _ _ w5.st w5.ex ((imm_T2 (imm_flat _) (imm_flat _)) _ _ _ _ _ hv)
    · have hm := ie hb hm
      try dsimp only
      refine s_if w4 (et_or (et_test (ev_eqI (ev_var (S := rInt.s K x_end) rfl (Sv.mono _ x4 (Sv.mono _ x1 z2))) (ev_var (S := rInt.s K place) rfl (Sv.mono _ x4 (Sv.mono _ x1 z1))))) (fun _ => (et_not (et_test (ev_ch_le_lt (ev_neg ev_int) (ev_var (S := rInt.s K x_end) rfl (Sv.mono _ x4 (Sv.mono _ x1 z2))) (ev_var (S := rInt.s K (table.length : Int)) rfl (Sv.mono _ x4 h3)))))) (fun _ => rfl)) (fun hb B6 H6 x6 w6 => ?_) (fun hb B6 H6 x6 w6 => ?_)
      · have hm := it hb hm
        refine s_ret w6 (ev_T2 (ea_cons (ev_tag tg_place) (ea_cons (ev_var (S := rInt.s K x_end) rfl (Sv.mono _ x6 (Sv.mono _ x4 (Sv.mono _ x1 z2)))) ea_nil))) (fun vv B7 H7 x7 w7 hv => ?_)
        cases hm
        exact k _ _ _ w7.st w7.ex ((imm_T2 (imm_flat _) (imm_flat _)) _ _ _ _ _ hv)
      · have hm := ie hb hm
        obtain ⟨t8, e9, hm⟩ := ob hm
        obtain ⟨t10, e11, hm⟩ := ob hm
        refine s_ret w6 (ev_T2 (ea_cons (ev_tag tg_toll) (ea_cons (ev_ix (ev_ix (ev_var (S := (rLst (rLst rInt)).s K table) rfl (Sv.mono _ x6 (Sv.mono _ x4 (Sv.mono _ x1 z0)))) (ev_var (S := rInt.s K place) rfl (Sv.mono _ x6 (Sv.mono _ x4 (Sv.mono _ x1 z1)))) src_p e9) (ev_var (S := rInt.s K x_end) rfl (Sv.mono _ x6 (Sv.mono _ x4 (Sv.mono _ x1 z2)))) src_p e11) ea_nil))) (fun vv B12 H12 x12 w12 hv => ?_)
        cases hm
        exact k _ _ _ w12.st w12.ex ((imm_T2 (imm_flat _) (imm_flat _)) _ _ _ _ _ hv)
def m__law_number : (List Int) × Int → Option (Int × (List Int)) := fun (state, size) =>
  (m__law_draw (state, (6 : Int))).bind fun (r1, state3) =>
  cond (decide ((0 : Int) < r1)) ((m__law_draw (state3, size)).bind fun (r5, state7) =>
  some (r5, state7)) ((m__law_draw (state3, (20 : Int))).bind fun (r9, state11) =>
  (m__law_draw (state11, (4 : Int))).bind fun (r12, state14) =>
  (atI [(-(1 : Int)), (-(2 : Int)), size, ((size + (1 : Int)) + r9)] r12).bind fun t15 =>
  some (t15, state14))
def p__law_number (K : Fg) : Sp := Pr1 K (fun (g : (List Int) × Int) p => [SA p, rInt.s K g.2]) (fun g => CL rInt K g.1) m__law_number (fun e => CL rInt K e) rInt
abbrev N__law_number : List Str := ["state", "size"]
theorem sc__law_number : FnScope N__law_number ["state", "size"] (defScope s__law_number) := ⟨rfl, rfl, rfl, by decide +kernel, rfl, by decide +kernel, by decide +kernel⟩
theorem ok__law_number {P : Program} {w : World} {K : Fg} {mg : Str → Option Value} {base : Heap} (T : Tx P K mg) {fd : FuncData} (F : FnP K "_law_number" s__law_number (He.ga K "_law_number") fd) : FnOk P w K mg base (L2.CX P w) 2 (He.ga K "_law_number") fd ["state", "size"] (p__law_number K) := by
  obtain ⟨fd__law_draw, F__law_draw⟩ := T.f__law_draw
  have G__law_draw : FnOk P w K mg base (L2.CX P w) 1 (He.ga K "_law_draw") fd__law_draw ["state", "many"] (p__law_draw K) := ok__law_draw T F__law_draw
  have b__law_draw : Binds K fd__law_draw ["state", "many"] [] := F__law_draw.bindsN fun _ _ _ _ _ _ us hl => match us, hl with | [_, _], _ => rfl
  have sc := sc__law_number
  refine F.ok sc (fun vs H Q E h => ?_) (fun cdv A outer s H vs Q E hr h => ?_)
  · obtain ⟨g, p, z, B, o, ss, _⟩ := h
    exact (Paired.length ss).trans rfl
  · obtain ⟨⟨state, size⟩, p0, z, B, o, ss, ex, h1, h2, h3, h4, hm, k⟩ := h
    obtain ⟨v0, v1, rfl, z0, z1⟩ := pn2 ss
    cases (show _ = V.ref p0 from z0)
    refine ⟨_, (pss_cons (ps_if (pt_cmpR op_gt (pe_call G__law_draw (hr.mono (by decide)) (by rfl) T.m__law_draw F__law_draw.kp b__law_draw .nil passL (pa_cons (pv 0) (pa_cons pe_int pa_nil))) pe_int (nomark _)) (pss_one (ps_ret (pe_call G__law_draw (hr.mono (by decide)) (by rfl) T.m__law_draw F__law_draw.kp b__law_draw .nil passL (pa_cons (pv 0) (pa_cons (pv 1) pa_nil))))) pss_nil) (pss_one (ps_ret (pe_ix (ixl (K := K) rfl) (pe_lst (pa_cons (pe_un un_neg pe_int) (pa_cons (pe_un un_neg pe_int) (pa_cons (pv 1) (pa_cons (pe_op op_add (pe_op op_add (pv 1) pe_int) (pe_call G__law_draw (hr.mono (by decide)) (by rfl) T.m__law_draw F__law_draw.kp b__law_draw .nil passL (pa_cons (pv 0) (pa_cons pe_int pa_nil)))) pa_nil))))) (pe_call G__law_draw (hr.mono (by decide)) (by rfl) T.m__law_draw F__law_draw.kp b__law_draw .nil passL (pa_cons (pv 0) (pa_cons pe_int pa_nil))) (fun _ _ => rfl))))), ?_⟩
    have w := Wd.start1 (K := K) ex h1 h2 h3 h4
    unfold m__law_number at hm
    obtain ⟨⟨r1, state3⟩, e2, hm⟩ := ob hm
    try dsimp only at hm
    try dsimp only
    refine s_if w (et_test (ev_gt ((ev_call1 (g := (state, (6 : Int))) 0 rfl (ea_cons (ev_var (S := SA p0) rfl rfl) (ea_cons ev_int ea_nil)) rfl (al_p (fun a z => List.mem_of_mem_eraseIdx z) (al_p (fun a z => List.mem_of_mem_eraseIdx z) al_nil)) e2 (csi (imm_flat _))).le g_s) ev_int)) (fun hb B4 H4 x4 w4 => ?_) (fun hb B4 H4 x4 w4 => ?_)
    · have hm := it hb hm
      obtain ⟨⟨r5, state7⟩, e6, hm⟩ := ob hm
      try dsimp only at hm
      refine s_ret w4 ((ev_call1 (g := (state3, size)) 0 rfl (ea_cons (ev_var (S := SA p0) rfl rfl) (ea_cons (ev_var (S := rInt.s K size) rfl (Sv.mono _ x4 z1)) ea_nil)) rfl (al_p (fun a z => List.mem_of_mem_eraseIdx z) (al_p (fun a z => List.mem_of_mem_eraseIdx z) al_nil)) e6 (csi (imm_flat _))).le g_s) (fun vv B8 H8 x8 w8 hv => ?_)
      cases hm
      obtain ⟨oz, gz1, _, gz3, gz4⟩ := w8.cell.get (i := 0) rfl rfl
      exact k _ _ _ oz w8.st w8.ex gz1 gz3 gz4 ((imm_flat _) _ _ _ _ _ hv)
    · have hm := ie hb hm
      obtain ⟨⟨r9, state11⟩, e10, hm⟩ := ob hm
      try dsimp only at hm
      obtain ⟨⟨r12, state14⟩, e13, hm⟩ := ob hm
      try dsimp only at hm
      obtain ⟨t15, e16, hm⟩ := ob hm
      refine s_ret w4 (ev_ix (ev_lst (R := rInt) (xs := [(-(1 : Int)), (-(2 : Int)), size, ((size + (1 : Int)) + r9)]) (ea_cons (ev_neg ev_int) (ea_cons (ev_neg ev_int) (ea_cons (ev_var (S := rInt.s K size) rfl (Sv.mono _ x4 z1)) (ea_cons (ev_add (ev_add (ev_var (S := rInt.s K size) rfl (Sv.mono _ x4 z1)) ev_int) ((ev_call1 (g := (state3, (20 : Int))) 0 rfl (ea_cons (ev_var (S := SA p0) rfl rfl) (ea_cons ev_int ea_nil)) rfl (al_p (fun a z => List.mem_of_mem_eraseIdx z) (al_p (fun a z => List.mem_of_mem_eraseIdx z) al_nil)) e10 (csi (imm_flat _))).le g_s)) ea_nil)))) (by show 4 ≤ 1000; decide)) ((ev_call1 (g := (state11, (4 : Int))) 0 rfl (ea_cons (ev_var (S := SA p0) rfl rfl) (ea_cons ev_int ea_nil)) rfl (al_p (fun a z => List.mem_of_mem_eraseIdx z) (al_p (fun a z => List.mem_of_mem_eraseIdx z) al_nil)) e13 (csi (imm_flat _))).le g_s) src_n e16) (fun vv B17 H17 x17 w17 hv => ?_)
      cases hm
      obtain ⟨oz, gz1, _, gz3, gz4⟩ := w17.cell.get (i := 0) rfl rfl
      exact k _ _ _ oz w17.st w17.ex gz1 gz3 gz4 ((imm_flat _) _ _ _ _ _ hv)
def m__law_end : (List Int) × Int → Option (Int) := fun (plan, place) =>
  (rngO (0 : Int) ((plan.length : Int) + (1 : Int))).bind fun xs4 =>
  finK (fun (stand6 : Int) => (some (-(2 : Int)))) (fun (tt : Int) => some tt) (forL (fun (turn8 : Int) (stand6 : Int) => ((cond (decide (stand6 < (0 : Int))) (some true) ((atI plan stand6).bind fun t9 => some (decide (t9 = stand6)))).bind fun b11 =>
  cond b11 (some (.rt stand6)) ((atI plan stand6).bind fun t15 =>
  some (.nx t15)) : Option (Ctl Int Int))) xs4 place)
def p__law_end (K : Fg) : Sp := Pr0 K (fun (g : (List Int) × Int) => [(rLst rInt).s K g.1, rInt.s K g.2]) m__law_end rInt
abbrev N__law_end : List Str := ["plan", "place", "stand", "turn"]
theorem sc__law_end : FnScope N__law_end ["plan", "place"] (defScope s__law_end) := ⟨rfl, rfl, rfl, by decide +kernel, rfl, by decide +kernel, by decide +kernel⟩
theorem ok__law_end {P : Program} {w : World} {K : Fg} {mg : Str → Option Value} {base : Heap} (T : Tx P K mg) {fd : FuncData} (F : FnP K "_law_end" s__law_end (He.ga K "_law_end") fd) : FnOk P w K mg base (L2.CX P w) 1 (He.ga K "_law_end") fd ["plan", "place"] (p__law_end K) := by
  have sc := sc__law_end
  refine F.ok sc (fun vs H Q E h => ?_) (fun cdv A outer s H vs Q E hr h => ?_)
  · obtain ⟨g, z, B, ss, _⟩ := h
    exact (Paired.length ss).trans rfl
  · obtain ⟨⟨plan, place⟩, z, B, ss, ex, hm, k⟩ := h
    obtain ⟨v0, v1, rfl, z0, z1⟩ := pn2 ss
    refine ⟨_, (pss_cons (ps_set (i := 2) sc.nd rfl (Or.inl rfl) (pv 1)) (pss_cons (ps_for (passes_of rfl) rfl (pi_range1 (by rfl) T.b_range (pa_cons (pe_op op_add (pe_callB (clen (K := K) rfl) (by rfl) T.b_len (by decide +kernel) (pa_cons (pv 0) pa_nil)) pe_int) pa_nil)) (pg_name (i := 3) sc.nd rfl (Or.inl rfl)) (pss_cons (ps_if (PW.pt (pw_or (pt_cmpR op_lt (pv 2) pe_int (nomark _)) (pw_or1 (pt_cmpR op_eq (pe_ix (ixl (K := K) rfl) (pv 0) (pv 2) (fun _ _ => rfl)) (pv 2) (nomark _))))) (pss_one (ps_ret (pv 2))) pss_nil) (pss_one (ps_set (i := 2) sc.nd rfl (Or.inl rfl) (pe_ix (ixl (K := K) rfl) (pv 0) (pv 2) (fun _ _ => rfl)))))) (pss_one (ps_ret (pe_un un_neg pe_int))))), ?_⟩
    have w := Wd.start (K := K) ex
    unfold m__law_end at hm
    refine s_asg w (ev_var (S := rInt.s K place) rfl z1) (fun v_2 B1 H1 x1 w1 h3 => ?_)
    obtain ⟨xs4, e5, hm⟩ := ob hm
    refine s_for (R := rInt) (oo := (fun (rr : Int) => [])) (ρ0 := place) (fun (turn8 : Int) (stand6 : Int) => ((cond (decide (stand6 < (0 : Int))) (some true) ((atI plan stand6).bind fun t9 => some (decide (t9 = stand6)))).bind fun b11 =>
cond b11 (some (.rt stand6)) ((atI plan stand6).bind fun t15 =>
some (.nx t15)) : Option (Ctl Int Int))) (fun (rr : Int) σ' B' => ∃ v_2 : V, ∃ o_3 : Option V, σ' = [some v0, some v1, some v_2, o_3] ∧ (rInt.s K rr).p v_2 B') (fun zz => finK _ _ zz = some _) w1 (ei_r1 (ev_add (ev_len (ev_var (S := (rLst rInt).s K plan) rfl (Sv.mono _ x1 z0)) src_p) ev_int) e5) (fun rr σ' B1 B2 e ⟨v_2, o_3, hσ, hj0⟩ => ⟨v_2, o_3, hσ, Sv.mono _ e hj0⟩) (fun B2 e => ⟨v_2, _, rfl, (Sv.mono _ e h3)⟩) hm ?_ ?_
    · rintro turn8 rst stand6 vx7 σ' Bt7 Ht7 xt7 wt7 ⟨v_2t7, o_3t7, rfl, hj0t7⟩ hx7 hf N hN dn
      dsimp only [gName]
      obtain ⟨ctl, hfx, hbk7, hrt7⟩ := forL_step hf
      have hm := hfx
      obtain ⟨b11, e12, hm⟩ := ob hm
      try dsimp only
      refine s_if wt7 (et_orO (b := b11) (et_test (ev_lt (ev_var (S := rInt.s K stand6) rfl hj0t7) ev_int)) (fun hc => by have e12 := ie hc e12; obtain ⟨t9, e10, e12⟩ := ob e12; have hq_ := Option.some.inj e12; subst hq_; exact (et_test (ev_eqI (ev_ix (ev_var (S := (rLst rInt).s K plan) rfl (Sv.mono _ xt7 (Sv.mono _ x1 z0))) (ev_var (S := rInt.s K stand6) rfl hj0t7) src_p e10) (ev_var (S := rInt.s K stand6) rfl hj0t7)))) (fun hc => by have e12 := it hc e12; cases e12; exact ⟨rfl, rfl⟩)) (fun hb B13 H13 x13 w13 => ?_) (fun hb B13 H13 x13 w13 => ?_)
      · have hm := it hb hm
        refine s_ret w13 (ev_var (S := rInt.s K stand6) rfl (Sv.mono _ x13 hj0t7)) (fun vv B14 H14 x14 w14 hv => ?_)
        cases hm
        replace hm := hrt7 _ rfl
        cases hm
        exact k _ _ _ w14.st w14.ex ((imm_flat _) _ _ _ _ _ hv)
      · have hm := ie hb hm
        obtain ⟨t15, e16, hm⟩ := ob hm
        refine s_asg w13 (ev_ix (ev_var (S := (rLst rInt).s K plan) rfl (Sv.mono _ x13 (Sv.mono _ xt7 (Sv.mono _ x1 z0)))) (ev_var (S := rInt.s K stand6) rfl (Sv.mono _ x13 hj0t7)) src_p e16) (fun v_18 B17 H17 x17 w17 h19 => ?_)
        have hq_ := Option.some.inj hm
        subst hq_
        exact hN t15 _ _ _ hfx (x13.trans x17) w17 ⟨v_18, _, rfl, h19⟩
    · rintro stand6 σ' B20 H20 x20 w20 ⟨v_2k21, o_3k21, rfl, hj0k21⟩ hm
      try dsimp only
      replace hm := finK_nx hm
      refine s_ret w20 (ev_neg ev_int) (fun vv B22 H22 x22 w22 hv => ?_)
      cases hm
      exact k _ _ _ w22.st w22.ex ((imm_flat _) _ _ _ _ _ hv)
def m__law_plan : (List Int) × Int → Option ((List Int) × (List Int)) := fun (state, size) =>
  (rngO (0 : Int) size).bind fun t1 =>
  (m__law_order (state, t1)).bind fun (r3, state5) =>
  (rngO (0 : Int) size).bind fun t9 =>
  (rngO (0 : Int) size).bind fun xs14 =>
  finK (fun (rr : (List Int) × (List Int)) => match rr with | (state16, plan17) => (some (plan17, state16))) (fun (_ : Unit) => none) (forL (fun (x_k19 : Int) (rr : (List Int) × (List Int)) => (match rr with | (state16, plan17) => ((m__law_draw (state16, (x_k19 + (3 : Int)))).bind fun (r20, state22) =>
  (cond (decide (r20 < x_k19)) ((atI r3 r20).bind fun t28 =>
  (atI r3 x_k19).bind fun t30 =>
  (setO plan17 t30 t28).bind fun plan32 =>
  some plan32) (cond (decide (r20 = x_k19)) ((atI r3 x_k19).bind fun t36 =>
  (setO plan17 t36 (-(1 : Int))).bind fun plan38 =>
  some plan38) (some plan17))).bind fun plan27 =>
  some (.nx (state22, plan27))) : Option (Ctl ((List Int) × (List Int)) Unit))) xs14 (state5, t9))
def p__law_plan (K : Fg) : Sp := Pr1 K (fun (g : (List Int) × Int) p => [SA p, rInt.s K g.2]) (fun g => CL rInt K g.1) m__law_plan (fun e => CL rInt K e) (rLst rInt)
abbrev N__law_plan : List Str := ["state", "size", "order", "plan", "k", "pick"]
theorem sc__law_plan : FnScope N__law_plan ["state", "size"] (defScope s__law_plan) := ⟨rfl, rfl, rfl, by decide +kernel, rfl, by decide +kernel, by decide +kernel⟩
theorem ok__law_plan {P : Program} {w : World} {K : Fg} {mg : Str → Option Value} {base : Heap} (T : Tx P K mg) {fd : FuncData} (F : FnP K "_law_plan" s__law_plan (He.ga K "_law_plan") fd) : FnOk P w K mg base (L2.CX P w) 3 (He.ga K "_law_plan") fd ["state", "size"] (p__law_plan K) := by
  obtain ⟨fd__law_draw, F__law_draw⟩ := T.f__law_draw
  have G__law_draw : FnOk P w K mg base (L2.CX P w) 1 (He.ga K "_law_draw") fd__law_draw ["state", "many"] (p__law_draw K) := ok__law_draw T F__law_draw
  have b__law_draw : Binds K fd__law_draw ["state", "many"] [] := F__law_draw.bindsN fun _ _ _ _ _ _ us hl => match us, hl with | [_, _], _ => rfl
  obtain ⟨fd__law_order, F__law_order⟩ := T.f__law_order
  have G__law_order : FnOk P w K mg base (L2.CX P w) 2 (He.ga K "_law_order") fd__law_order ["state", "places"] (p__law_order K) := ok__law_order T F__law_order
  have b__law_order : Binds K fd__law_order ["state", "places"] [] := F__law_order.bindsN fun _ _ _ _ _ _ us hl => match us, hl with | [_, _], _ => rfl
  have sc := sc__law_plan
  refine F.ok sc (fun vs H Q E h => ?_) (fun cdv A outer s H vs Q E hr h => ?_)
  · obtain ⟨g, p, z, B, o, ss, _⟩ := h
    exact (Paired.length ss).trans rfl
  · obtain ⟨⟨state, size⟩, p0, z, B, o, ss, ex, h1, h2, h3, h4, hm, k⟩ := h
    obtain ⟨v0, v1, rfl, z0, z1⟩ := pn2 ss
    cases (show _ = V.ref p0 from z0)
    refine ⟨_, (pss_cons (ps_set (i := 2) sc.nd rfl (Or.inl rfl) (pe_call G__law_order (hr.mono (by decide)) (by rfl) T.m__law_order F__law_order.kp b__law_order .nil passL (pa_cons (pv 0) (pa_cons (pe_listRg (by rfl) (by rfl) T.b_list (prg_1 (by rfl) T.b_range (pv 1))) pa_nil)))) (pss_cons (ps_set (i := 3) sc.nd rfl (Or.inl rfl) (pe_listRg (by rfl) (by rfl) T.b_list (prg_1 (by rfl) T.b_range (pv 1)))) (pss_cons (ps_for (passes_of rfl) rfl (pi_range1 (by rfl) T.b_range (pa_cons (pv 1) pa_nil)) (pg_name (i := 4) sc.nd rfl (Or.inl rfl)) (pss_cons (ps_set (i := 5) sc.nd rfl (Or.inl rfl) (pe_call G__law_draw (hr.mono (by decide)) (by rfl) T.m__law_draw F__law_draw.kp b__law_draw .nil passL (pa_cons (pv 0) (pa_cons (pe_op op_add (pv 4) pe_int) pa_nil)))) (pss_one (ps_if (pt_cmpR op_lt (pv 5) (pv 4) (nomark _)) (pss_one (ps_asg (pe_ix (ixl (K := K) rfl) (pv 2) (pv 5) (fun _ _ => rfl)) (pg_sub (pv 3) (pe_ix (ixl (K := K) rfl) (pv 2) (pv 4) (fun _ _ => rfl)) set_list))) (pss_one (ps_if (pt_cmpR op_eq (pv 5) (pv 4) (nomark _)) (pss_one (ps_asg (pe_un un_neg pe_int) (pg_sub (pv 3) (pe_ix (ixl (K := K) rfl) (pv 2) (pv 4) (fun _ _ => rfl)) set_list))) pss_nil)))))) (pss_one (ps_ret (pv 3)))))), ?_⟩
    have w := Wd.start1 (K := K) ex h1 h2 h3 h4
    unfold m__law_plan at hm
    obtain ⟨t1, e2, hm⟩ := ob hm
    obtain ⟨⟨r3, state5⟩, e4, hm⟩ := ob hm
    try dsimp only at hm
    refine s_asg w ((ev_call1 (g := (state, t1)) 0 rfl (ea_cons (ev_var (S := SA p0) rfl rfl) (ea_cons (ev_listR1 (ev_var (S := rInt.s K size) rfl z1) e2) ea_nil)) rfl (al_p (fun a z => List.mem_of_mem_eraseIdx z) (al_le sn_s (fun a z => List.mem_of_mem_eraseIdx z) al_nil)) e4 (csi (imm_flat _))).le g_s) (fun v_7 B6 H6 x6 w6 h8 => ?_)
    obtain ⟨t9, e10, hm⟩ := ob hm
    refine s_own w6 (ev_listR1 (ev_var (S := rInt.s K size) rfl (Sv.mono _ x6 z1)) e10) (imm_flat _) ⟨csi (imm_flat _), trivial⟩ (fun q12 B11 H11 x11 n13 w11 => ?_)
    obtain ⟨xs14, e15, hm⟩ := ob hm
    refine s_for (R := rInt) (oo := (fun (rr : (List Int) × (List Int)) => [CL rInt K rr.2, CL rInt K rr.1])) (ρ0 := (state5, t9)) (fun (x_k19 : Int) (rr : (List Int) × (List Int)) => (match rr with | (state16, plan17) => ((m__law_draw (state16, (x_k19 + (3 : Int)))).bind fun (r20, state22) =>
(cond (decide (r20 < x_k19)) ((atI r3 r20).bind fun t28 =>
(atI r3 x_k19).bind fun t30 =>
(setO plan17 t30 t28).bind fun plan32 =>
some plan32) (cond (decide (r20 = x_k19)) ((atI r3 x_k19).bind fun t36 =>
(setO plan17 t36 (-(1 : Int))).bind fun plan38 =>
some plan38) (some plan17))).bind fun plan27 =>
some (.nx (state22, plan27))) : Option (Ctl ((List Int) × (List Int)) Unit))) (fun (rr : (List Int) × (List Int)) σ' B' => ∃ o_4 : Option V, ∃ o_5 : Option V, σ' = [some (.ref p0), some v1, some v_7, some (.ref q12), o_4, o_5]) (fun zz => finK _ _ zz = some _) w11 (ei_r1 (ev_var (S := rInt.s K size) rfl (Sv.mono _ x11 (Sv.mono _ x6 z1))) e15) (fun rr σ' B1 B2 e ⟨o_4, o_5, hσ⟩ => ⟨o_4, o_5, hσ⟩) (fun B2 e => ⟨_, _, rfl⟩) hm ?_ ?_
    · rintro x_k19 rst rr vx18 σ' Bt18 Ht18 xt18 wt18 ⟨o_4t18, o_5t18, rfl⟩ hx18 hf N hN dn
      dsimp only [gName]
      obtain ⟨state16, plan17⟩ := rr
      obtain ⟨ctl, hfx, hbk18, hrt18⟩ := forL_step hf
      have hm := hfx
      obtain ⟨⟨r20, state22⟩, e21, hm⟩ := ob hm
      try dsimp only at hm
      refine s_asg wt18 ((ev_call1 (g := (state16, (x_k19 + (3 : Int)))) 1 rfl (ea_cons (ev_var (S := SA p0) rfl rfl) (ea_cons (ev_add (ev_var (S := rInt.s K x_k19) rfl hx18) ev_int) ea_nil)) rfl (al_p (fun a z => List.mem_of_mem_eraseIdx z) (al_p (fun a z => List.mem_of_mem_eraseIdx z) al_nil)) e21 (csi (imm_flat _))).le g_s) (fun v_24 B23 H23 x23 w23 h25 => ?_)
      obtain ⟨rj, hA43, hm⟩ := ob hm
      refine s_ifJ (ks2 := [q12, p0]) (oo := (fun (rr : (List Int)) => [CL rInt K rr, CL rInt K state22])) (fun (rr : (List Int)) σ' B' => σ' = [some (.ref p0), some v1, some v_7, some (.ref q12), some vx18, some v_24]) (fun rr => rr = rj) w23 (et_test (ev_lt (ev_var (S := rInt.s K r20) rfl h25) (ev_var (S := rInt.s K x_k19) rfl (Sv.mono _ x23 hx18)))) ?_ (fun hb B26 H26 x26 w26 N hN => ?_) (fun hb B26 H26 x26 w26 N hN => ?_)
      · rintro plan27 σ' B41 H41 x41 w41 ⟨rfl⟩ hq
        subst hq
        try dsimp only
        have hq_ := Option.some.inj hm
        subst hq_
        exact hN (state22, plan27) _ _ _ hfx (x23.trans x41) w41 ⟨_, _, rfl⟩
      · have hm := it hb hA43
        obtain ⟨t28, e29, hm⟩ := ob hm
        obtain ⟨t30, e31, hm⟩ := ob hm
        obtain ⟨plan32, e33, hm⟩ := ob hm
        refine s_set 0 rfl w26 (ev_ix (ev_var (S := (rLst rInt).s K r3) rfl (Sv.mono _ x26 (Sv.mono _ x23 (Sv.mono _ xt18 (Sv.mono _ x11 h8))))) (ev_var (S := rInt.s K r20) rfl (Sv.mono _ x26 h25)) src_p e29) (ev_var (S := SA q12) rfl rfl) (ev_ix (ev_var (S := (rLst rInt).s K r3) rfl (Sv.mono _ x26 (Sv.mono _ x23 (Sv.mono _ xt18 (Sv.mono _ x11 h8))))) (ev_var (S := rInt.s K x_k19) rfl (Sv.mono _ x26 (Sv.mono _ x23 hx18))) src_p e31) rfl e33 (fun B34 H34 x34 w34 => ?_)
        have hq_ := Option.some.inj hm
        subst hq_
        exact hN plan32 _ _ _ (x26.trans x34) w34 rfl rfl
      · have hm := ie hb hA43
        try dsimp only
        refine s_if w26 (et_test (ev_eqI (ev_var (S := rInt.s K r20) rfl (Sv.mono _ x26 h25)) (ev_var (S := rInt.s K x_k19) rfl (Sv.mono _ x26 (Sv.mono _ x23 hx18))))) (fun hb B35 H35 x35 w35 => ?_) (fun hb B35 H35 x35 w35 => ?_)
        · have hm := it hb hm
          obtain ⟨t36, e37, hm⟩ := ob hm
          obtain ⟨plan38, e39, hm⟩ := ob hm
          refine s_set 0 rfl w35 (ev_neg ev_int) (ev_var (S := SA q12) rfl rfl) (ev_ix (ev_var (S := (rLst rInt).s K r3) rfl (Sv.mono _ x35 (Sv.mono _ x26 (Sv.mono _ x23 (Sv.mono _ xt18 (Sv.mono _ x11 h8)))))) (ev_var (S := rInt.s K x_k19) rfl (Sv.mono _ x35 (Sv.mono _ x26 (Sv.mono _ x23 hx18)))) src_p e37) rfl e39 (fun B40 H40 x40 w40 => ?_)
          have hq_ := Option.some.inj hm
          subst hq_
          exact hN plan38 _ _ _ ((x26.trans x35).trans x40) w40 rfl rfl
        · have hm := ie hb hm
          have hq_ := Option.some.inj hm
          subst hq_
          exact hN plan17 _ _ _ (x26.trans x35) w35 rfl rfl
    · rintro rr σ' B44 H44 x44 w44 ⟨o_4k45, o_5k45, rfl⟩ hm
      try dsimp only
      replace hm := finK_nx hm
      obtain ⟨state16, plan17⟩ := rr
      refine s_ret w44 (ev_var (S := SA q12) rfl rfl) (fun vv B46 H46 x46 w46 hv => ?_)
      cases (show vv = _ from hv)
      cases hm
      obtain ⟨Bz, xz, w47, rz⟩ := r_o w46 n13 (imm_flat _)
      obtain ⟨oz, gz1, _, gz3, gz4⟩ := w47.cell.get (i := 0) rfl rfl
      exact k _ _ _ oz w47.st w47.ex gz1 gz3 gz4 rz
def m__law_bent_plan : (List Int) × (List Int) → Option ((List Int) × (List Int)) := fun (state, plan) =>
  (m__law_draw (state, (8 : Int))).bind fun (r1, state3) =>
  cond (decide (r1 = (0 : Int))) ((m__law_draw (state3, (9 : Int))).bind fun (r5, state7) =>
  (repO [(-(1 : Int))] ((17 : Int) + r5)).bind fun t8 =>
  (catO plan [(plan.length : Int)]).bind fun t12 =>
  (m__law_draw (state7, (3 : Int))).bind fun (r13, state15) =>
  (atI [([] : List Int), t8, t12] r13).bind fun t16 =>
  some (t16, state15)) ((m__law_draw (state3, (plan.length : Int))).bind fun (r22, state24) =>
  (m__law_end (plan, r22)).bind fun r28 =>
  (cond (decide ((0 : Int) ≤ r28)) ((cond (!decide (r28 = r22)) ((m__law_draw (state24, (3 : Int))).bind fun (r33, state35) => some ((decide ((0 : Int) < r33)), state35)) (some (false, state24))).bind fun (b36, state38) => some (b36, state38)) (some (false, state24))).bind fun (b39, state41) =>
  cond b39 ((setO plan r28 r22).bind fun bent43 =>
  some (bent43, state41)) ((m__law_draw (state41, (2 : Int))).bind fun (r48, state50) =>
  (rngO (0 : Int) ((1 : Int) + r48)).bind fun xs51 =>
  finK (fun (rr : (List Int) × (List Int)) => match rr with | (state53, bent54) => (some (bent54, state53))) (fun (_ : Unit) => none) (forL (fun (turn56 : Int) (rr : (List Int) × (List Int)) => (match rr with | (state53, bent54) => ((m__law_draw (state53, ((bent54.length : Int) + (4 : Int)))).bind fun (r57, state59) =>
  (m__law_draw (state59, (bent54.length : Int))).bind fun (r60, state62) =>
  (setO bent54 r60 (r57 - (3 : Int))).bind fun bent63 =>
  some (.nx (state62, bent63))) : Option (Ctl ((List Int) × (List Int)) Unit))) xs51 (state50, plan))))
def p__law_bent_plan (K : Fg) : Sp := Pr1a K (fun (g : (List Int) × (List Int)) p => [SA p, (rLst rInt).s K g.2]) (fun g => CL rInt K g.1) m__law_bent_plan (fun e => CL rInt K e) (rLst rInt)
abbrev N__law_bent_plan : List Str := ["state", "plan", "bent", "place", "end", "turn"]
theorem sc__law_bent_plan : FnScope N__law_bent_plan ["state", "plan"] (defScope s__law_bent_plan) := ⟨rfl, rfl, rfl, by decide +kernel, rfl, by decide +kernel, by decide +kernel⟩
theorem ok__law_bent_plan {P : Program} {w : World} {K : Fg} {mg : Str → Option Value} {base : Heap} (T : Tx P K mg) {fd : FuncData} (F : FnP K "_law_bent_plan" s__law_bent_plan (He.ga K "_law_bent_plan") fd) : FnOk P w K mg base (L2.CX P w) 2 (He.ga K "_law_bent_plan") fd ["state", "plan"] (p__law_bent_plan K) := by
  obtain ⟨fd__law_draw, F__law_draw⟩ := T.f__law_draw
  have G__law_draw : FnOk P w K mg base (L2.CX P w) 1 (He.ga K "_law_draw") fd__law_draw ["state", "many"] (p__law_draw K) := ok__law_draw T F__law_draw
  have b__law_draw : Binds K fd__law_draw ["state", "many"] [] := F__law_draw.bindsN fun _ _ _ _ _ _ us hl => match us, hl with | [_, _], _ => rfl
  obtain ⟨fd__law_end, F__law_end⟩ := T.f__law_end
  have G__law_end : FnOk P w K mg base (L2.CX P w) 1 (He.ga K "_law_end") fd__law_end ["plan", "place"] (p__law_end K) := ok__law_end T F__law_end
  have b__law_end : Binds K fd__law_end ["plan", "place"] [] := F__law_end.bindsN fun _ _ _ _ _ _ us hl => match us, hl with | [_, _], _ => rfl
  have sc := sc__law_bent_plan
  refine F.ok sc (fun vs H Q E h => ?_) (fun cdv A outer s H vs Q E hr h => ?_)
  · obtain ⟨g, p, z, B, o, ss, _⟩ := h
    exact (Paired.length ss).trans rfl
  · obtain ⟨⟨state, plan⟩, p0, z, B, o, ss, ex, h1, h2, h3, h4, hm, k⟩ := h
    obtain ⟨v0, v1, rfl, z0, z1⟩ := pn2 ss
    cases (show _ = V.ref p0 from z0)
    refine ⟨_, (pss_cons (ps_if (pt_cmpR op_eq (pe_call G__law_draw (hr.mono (by decide)) (by rfl) T.m__law_draw F__law_draw.kp b__law_draw .nil passL (pa_cons (pv 0) (pa_cons pe_int pa_nil))) pe_int (nomark _)) (pss_one (ps_ret (pe_ix (ixl (K := K) rfl) (pe_lst (pa_cons (pe_lst pa_nil) (pa_cons (pe_op op_rep (pe_lst (pa_cons (pe_un un_neg pe_int) pa_nil)) (pe_op op_add pe_int (pe_call G__law_draw (hr.mono (by decide)) (by rfl) T.m__law_draw F__law_draw.kp b__law_draw .nil passL (pa_cons (pv 0) (pa_cons pe_int pa_nil))))) (pa_cons (pe_op op_cat (pv 1) (pe_lst (pa_cons (pe_callB (clen (K := K) rfl) (by rfl) T.b_len (by decide +kernel) (pa_cons (pv 1) pa_nil)) pa_nil))) pa_nil)))) (pe_call G__law_draw (hr.mono (by decide)) (by rfl) T.m__law_draw F__law_draw.kp b__law_draw .nil passL (pa_cons (pv 0) (pa_cons pe_int pa_nil))) (fun _ _ => rfl)))) pss_nil) (pss_cons (ps_set (i := 2) sc.nd rfl (Or.inl rfl) (pe_callTy (clst (K := K) rfl) (by rfl) T.b_list (by decide +kernel) (pa_cons (pv 1) pa_nil))) (pss_cons (ps_set (i := 3) sc.nd rfl (Or.inl rfl) (pe_call G__law_draw (hr.mono (by decide)) (by rfl) T.m__law_draw F__law_draw.kp b__law_draw .nil passL (pa_cons (pv 0) (pa_cons (pe_callB (clen (K := K) rfl) (by rfl) T.b_len (by decide +kernel) (pa_cons (pv 2) pa_nil)) pa_nil)))) (pss_cons (ps_set (i := 4) sc.nd rfl (Or.inl rfl) (pe_call G__law_end (hr.mono (by decide)) (by rfl) T.m__law_end F__law_end.kp b__law_end .nil passL (pa_cons (pv 1) (pa_cons (pv 3) pa_nil)))) (pss_cons (ps_if (PW.pt (pw_and (pt_cmpR op_ge (pv 4) pe_int (nomark _)) (pw_and (pt_cmpR op_ne (pv 4) (pv 3) (nomark _)) (pw_and1 (pt_cmpR op_gt (pe_call G__law_draw (hr.mono (by decide)) (by rfl) T.m__law_draw F__law_draw.kp b__law_draw .nil passL (pa_cons (pv 0) (pa_cons pe_int pa_nil))) pe_int (nomark _)))))) (pss_cons (ps_asg (pv 3) (pg_sub (pv 2) (pv 4) set_list)) (pss_one (ps_ret (pv 2)))) pss_nil) (pss_cons (ps_for (passes_of rfl) rfl (pi_range1 (by rfl) T.b_range (pa_cons (pe_op op_add pe_int (pe_call G__law_draw (hr.mono (by decide)) (by rfl) T.m__law_draw F__law_draw.kp b__law_draw .nil passL (pa_cons (pv 0) (pa_cons pe_int pa_nil)))) pa_nil)) (pg_name (i := 5) sc.nd rfl (Or.inl rfl)) (pss_one (ps_asg (pe_op op_sub (pe_call G__law_draw (hr.mono (by decide)) (by rfl) T.m__law_draw F__law_draw.kp b__law_draw .nil passL (pa_cons (pv 0) (pa_cons (pe_op op_add (pe_callB (clen (K := K) rfl) (by rfl) T.b_len (by decide +kernel) (pa_cons (pv 2) pa_nil)) pe_int) pa_nil))) pe_int) (pg_sub (pv 2) (pe_call G__law_draw (hr.mono (by decide)) (by rfl) T.m__law_draw F__law_draw.kp b__law_draw .nil passL (pa_cons (pv 0) (pa_cons (pe_callB (clen (K := K) rfl) (by rfl) T.b_len (by decide +kernel) (pa_cons (pv 2) pa_nil)) pa_nil))) set_list)))) (pss_one (ps_ret (pv 2))))))))), ?_⟩
    have w := Wd.start1 (K := K) ex h1 h2 h3 h4
    unfold m__law_bent_plan at hm
    obtain ⟨⟨r1, state3⟩, e2, hm⟩ := ob hm
    try dsimp only at hm
    try dsimp only
    refine s_if w (et_test (ev_eqI ((ev_call1 (g := (state, (8 : Int))) 0 rfl (ea_cons (ev_var (S := SA p0) rfl rfl) (ea_cons ev_int ea_nil)) rfl (al_p (fun a z => List.mem_of_mem_eraseIdx z) (al_p (fun a z => List.mem_of_mem_eraseIdx z) al_nil)) e2 (csi (imm_flat _))).le g_s) ev_int)) (fun hb B4 H4 x4 w4 => ?_) (fun hb B4 H4 x4 w4 => ?_)
    · have hm := it hb hm
      obtain ⟨⟨r5, state7⟩, e6, hm⟩ := ob hm
      try dsimp only at hm
      obtain ⟨t8, e9, hm⟩ := ob hm
      obtain ⟨t12, e10, hm⟩ := ob hm
      obtain ⟨⟨r13, state15⟩, e14, hm⟩ := ob hm
      try dsimp only at hm
      obtain ⟨t16, e17, hm⟩ := ob hm
      refine s_ret w4 (ev_ix (ev_lst (R := (rLst rInt)) (xs := [([] : List Int), t8, t12]) (ea_cons ((ev_lst (R := rInt) (xs := []) ea_nil (by decide)).le sn_s) (ea_cons ((ev_rep (ev_lst (R := rInt) (xs := [(-(1 : Int))]) (ea_cons (ev_neg ev_int) ea_nil) (by show 1 ≤ 1000; decide)) (ev_add ev_int ((ev_call1 (g := (state3, (9 : Int))) 0 rfl (ea_cons (ev_var (S := SA p0) rfl rfl) (ea_cons ev_int ea_nil)) rfl (al_p (fun a z => List.mem_of_mem_eraseIdx z) (al_p (fun a z => List.mem_of_mem_eraseIdx z) al_nil)) e6 (csi (imm_flat _))).le g_s)) src_n e9).le sn_s) (ea_cons ((ev_catO (ev_var (S := (rLst rInt).s K plan) rfl (Sv.mono _ x4 z1)) (ev_lst (R := rInt) (xs := [(plan.length : Int)]) (ea_cons (ev_len (ev_var (S := (rLst rInt).s K plan) rfl (Sv.mono _ x4 z1)) src_p) ea_nil) (by show 1 ≤ 1000; decide)) src_p src_n e10).le sn_s) ea_nil))) (by show 3 ≤ 1000; decide)) ((ev_call1 (g := (state7, (3 : Int))) 0 rfl (ea_cons (ev_var (S := SA p0) rfl rfl) (ea_cons ev_int ea_nil)) rfl (al_p (fun a z => List.mem_of_mem_eraseIdx z) (al_p (fun a z => List.mem_of_mem_eraseIdx z) al_nil)) e14 (csi (imm_flat _))).le g_s) src_n e17) (fun vv B18 H18 x18 w18 hv => ?_)
      cases hm
      obtain ⟨oz, gz1, _, gz3, gz4⟩ := w18.cell.get (i := 0) rfl rfl
      exact k _ _ _ oz w18.st w18.ex gz1 gz3 gz4 hv
    · have hm := ie hb hm
      refine s_own w4 (ev_list (ev_var (S := (rLst rInt).s K plan) rfl (Sv.mono _ x4 z1)) src_p) (imm_flat _) ⟨csi (imm_flat _), trivial⟩ (fun q20 B19 H19 x19 n21 w19 => ?_)
      obtain ⟨⟨r22, state24⟩, e23, hm⟩ := ob hm
      try dsimp only at hm
      refine s_asg w19 ((ev_call1 (g := (state3, (plan.length : Int))) 1 rfl (ea_cons (ev_var (S := SA p0) rfl rfl) (ea_cons (ev_len (ev_var (S := SA q20) rfl rfl) (src_o (R := rInt) (xs := plan) 0 rfl rfl)) ea_nil)) rfl (al_p (fun a z => List.mem_of_mem_eraseIdx z) (al_p (fun a z => List.mem_of_mem_eraseIdx z) al_nil)) e23 (csi (imm_flat _))).le g_s) (fun v_26 B25 H25 x25 w25 h27 => ?_)
      obtain ⟨r28, e29, hm⟩ := ob hm
      refine s_asg w25 ((ev_call0 (g := (plan, r22)) (ea_cons (ev_var (S := (rLst rInt).s K plan) rfl (Sv.mono _ x25 (Sv.mono _ x19 (Sv.mono _ x4 z1)))) (ea_cons (ev_var (S := rInt.s K r22) rfl h27) ea_nil)) (al_p (fun _ z => z) (al_p (fun _ z => z) al_nil)) e29).le g_s) (fun v_31 B30 H30 x30 w30 h32 => ?_)
      obtain ⟨⟨b39, state41⟩, e40, hm⟩ := ob hm
      try dsimp only at hm
      try dsimp only
      refine s_if w30 (et_andO (o3 := [CL rInt K plan, CL rInt K state41]) (b := b39) (et_test (ev_ge (ev_var (S := rInt.s K r28) rfl h32) ev_int)) (fun hc => by have e40 := it hc e40; obtain ⟨⟨b36, state38⟩, e37, e40⟩ := ob e40; try dsimp only at e40; have hs0_ := Option.some.inj e40; obtain ⟨hq0_, hs1_⟩ := Prod.mk.inj hs0_; subst hq0_; subst hs1_; exact (et_andO (o3 := [CL rInt K plan, CL rInt K state38]) (b := b36) (et_test (ev_neI (ev_var (S := rInt.s K r28) rfl h32) (ev_var (S := rInt.s K r22) rfl (Sv.mono _ x30 h27)))) (fun hc => by have e37 := it hc e37; obtain ⟨⟨r33, state35⟩, e34, e37⟩ := ob e37; try dsimp only at e37; have hs0_ := Option.some.inj e37; obtain ⟨hq0_, hs1_⟩ := Prod.mk.inj hs0_; subst hq0_; subst hs1_; exact (et_test (ev_gt ((ev_call1 (g := (state24, (3 : Int))) 1 rfl (ea_cons (ev_var (S := SA p0) rfl rfl) (ea_cons ev_int ea_nil)) rfl (al_p (fun a z => List.mem_of_mem_eraseIdx z) (al_p (fun a z => List.mem_of_mem_eraseIdx z) al_nil)) e34 (csi (imm_flat _))).le g_s) ev_int))) (fun hc => by have e37 := ie hc e37; cases e37; exact ⟨rfl, rfl⟩))) (fun hc => by have e40 := ie hc e40; cases e40; exact ⟨rfl, rfl⟩)) (fun hb B42 H42 x42 w42 => ?_) (fun hb B42 H42 x42 w42 => ?_)
      · have hm := it hb hm
        obtain ⟨bent43, e44, hm⟩ := ob hm
        refine s_set 0 rfl w42 (ev_var (S := rInt.s K r22) rfl (Sv.mono _ x42 (Sv.mono _ x30 h27))) (ev_var (S := SA q20) rfl rfl) (ev_var (S := rInt.s K r28) rfl (Sv.mono _ x42 h32)) rfl e44 (fun B45 H45 x45 w45 => ?_)
        refine s_ret w45 (ev_var (S := SA q20) rfl rfl) (fun vv B46 H46 x46 w46 hv => ?_)
        cases (show vv = _ from hv)
        cases hm
        obtain ⟨Bz, xz, w47, rz⟩ := r_oa w46 n21
        obtain ⟨oz, gz1, _, gz3, gz4⟩ := w47.cell.get (i := 0) rfl rfl
        exact k _ _ _ oz w47.st w47.ex gz1 gz3 gz4 rz
      · have hm := ie hb hm
        obtain ⟨⟨r48, state50⟩, e49, hm⟩ := ob hm
        try dsimp only at hm
        obtain ⟨xs51, e52, hm⟩ := ob hm
        refine s_for (R := rInt) (oo := (fun (rr : (List Int) × (List Int)) => [CL rInt K rr.2, CL rInt K rr.1])) (ρ0 := (state50, plan)) (fun (turn56 : Int) (rr : (List Int) × (List Int)) => (match rr with | (state53, bent54) => ((m__law_draw (state53, ((bent54.length : Int) + (4 : Int)))).bind fun (r57, state59) =>
(m__law_draw (state59, (bent54.length : Int))).bind fun (r60, state62) =>
(setO bent54 r60 (r57 - (3 : Int))).bind fun bent63 =>
some (.nx (state62, bent63))) : Option (Ctl ((List Int) × (List Int)) Unit))) (fun (rr : (List Int) × (List Int)) σ' B' => ∃ o_5 : Option V, σ' = [some (.ref p0), some v1, some (.ref q20), some v_26, some v_31, o_5]) (fun zz => finK _ _ zz = some _) w42 (ei_r1 (ev_add ev_int ((ev_call1 (g := (state41, (2 : Int))) 1 rfl (ea_cons (ev_var (S := SA p0) rfl rfl) (ea_cons ev_int ea_nil)) rfl (al_p (fun a z => List.mem_of_mem_eraseIdx z) (al_p (fun a z => List.mem_of_mem_eraseIdx z) al_nil)) e49 (csi (imm_flat _))).le g_s)) e52) (fun rr σ' B1 B2 e ⟨o_5, hσ⟩ => ⟨o_5, hσ⟩) (fun B2 e => ⟨_, rfl⟩) hm ?_ ?_
        · rintro turn56 rst rr vx55 σ' Bt55 Ht55 xt55 wt55 ⟨o_5t55, rfl⟩ hx55 hf N hN dn
          dsimp only [gName]
          obtain ⟨state53, bent54⟩ := rr
          obtain ⟨ctl, hfx, hbk55, hrt55⟩ := forL_step hf
          have hm := hfx
          obtain ⟨⟨r57, state59⟩, e58, hm⟩ := ob hm
          try dsimp only at hm
          obtain ⟨⟨r60, state62⟩, e61, hm⟩ := ob hm
          try dsimp only at hm
          obtain ⟨bent63, e64, hm⟩ := ob hm
          refine s_set 0 rfl wt55 (ev_sub ((ev_call1 (g := (state53, ((bent54.length : Int) + (4 : Int)))) 1 rfl (ea_cons (ev_var (S := SA p0) rfl rfl) (ea_cons (ev_add (ev_len (ev_var (S := SA q20) rfl rfl) (src_o (R := rInt) (xs := bent54) 0 rfl rfl)) ev_int) ea_nil)) rfl (al_p (fun a z => List.mem_of_mem_eraseIdx z) (al_p (fun a z => List.mem_of_mem_eraseIdx z) al_nil)) e58 (csi (imm_flat _))).le g_s) ev_int) (ev_var (S := SA q20) rfl rfl) ((ev_call1 (g := (state59, (bent54.length : Int))) 1 rfl (ea_cons (ev_var (S := SA p0) rfl rfl) (ea_cons (ev_len (ev_var (S := SA q20) rfl rfl) (src_o (R := rInt) (xs := bent54) 0 rfl rfl)) ea_nil)) rfl (al_p (fun a z => List.mem_of_mem_eraseIdx z) (al_p (fun a z => List.mem_of_mem_eraseIdx z) al_nil)) e61 (csi (imm_flat _))).le g_s) rfl e64 (fun B65 H65 x65 w65 => ?_)
          have hq_ := Option.some.inj hm
          subst hq_
          exact hN (state62, bent63) _ _ _ hfx x65 w65 ⟨_, rfl⟩
        · rintro rr σ' B66 H66 x66 w66 ⟨o_5k67, rfl⟩ hm
          try dsimp only
          replace hm := finK_nx hm
          obtain ⟨state53, bent54⟩ := rr
          refine s_ret w66 (ev_var (S := SA q20) rfl rfl) (fun vv B68 H68 x68 w68 hv => ?_)
          cases (show vv = _ from hv)
          cases hm
          obtain ⟨Bz, xz, w69, rz⟩ := r_oa w68 n21
          obtain ⟨oz, gz1, _, gz3, gz4⟩ := w69.cell.get (i := 0) rfl rfl
          exact k _ _ _ oz w69.st w69.ex gz1 gz3 gz4 rz
def m__law_wrong_in_plan : (List Int) → Option (Int) := fun plan =>
  cond ((decide ((plan.length : Int) = (0 : Int))) || (decide ((16 : Int) < (plan.length : Int)))) (some (-(1 : Int))) ((rngO (0 : Int) (plan.length : Int)).bind fun xs6 =>
  finK (fun (_ : Unit) => ((rngO (0 : Int) (plan.length : Int)).bind fun xs16 =>
  finK (fun (_ : Unit) => (some (-(2 : Int)))) (fun (tt : Int) => some tt) (forL (fun (place19 : Int) (_ : Unit) => ((m__law_end (plan, place19)).bind fun r20 =>
  cond (decide (r20 = (-(2 : Int)))) (some (.rt place19)) (some (.nx ())) : Option (Ctl Unit Int))) xs16 ()))) (fun (tt : Int) => some tt) (forL (fun (place9 : Int) (_ : Unit) => ((atI plan place9).bind fun t10 =>
  cond (!(decide ((-(1 : Int)) ≤ t10) && decide (t10 < (plan.length : Int)))) (some (.rt place9)) (some (.nx ())) : Option (Ctl Unit Int))) xs6 ()))
def p__law_wrong_in_plan (K : Fg) : Sp := Pr0 K (fun (g : (List Int)) => [(rLst rInt).s K g]) m__law_wrong_in_plan rInt
abbrev N__law_wrong_in_plan : List Str := ["plan", "size", "place"]
theorem sc__law_wrong_in_plan : FnScope N__law_wrong_in_plan ["plan"] (defScope s__law_wrong_in_plan) := ⟨rfl, rfl, rfl, by decide +kernel, rfl, by decide +kernel, by decide +kernel⟩
theorem ok__law_wrong_in_plan {P : Program} {w : World} {K : Fg} {mg : Str → Option Value} {base : Heap} (T : Tx P K mg) {fd : FuncData} (F : FnP K "_law_wrong_in_plan" s__law_wrong_in_plan (He.ga K "_law_wrong_in_plan") fd) : FnOk P w K mg base (L2.CX P w) 2 (He.ga K "_law_wrong_in_plan") fd ["plan"] (p__law_wrong_in_plan K) := by
  obtain ⟨fd__law_end, F__law_end⟩ := T.f__law_end
  have G__law_end : FnOk P w K mg base (L2.CX P w) 1 (He.ga K "_law_end") fd__law_end ["plan", "place"] (p__law_end K) := ok__law_end T F__law_end
  have b__law_end : Binds K fd__law_end ["plan", "place"] [] := F__law_end.bindsN fun _ _ _ _ _ _ us hl => match us, hl with | [_, _], _ => rfl
  have sc := sc__law_wrong_in_plan
  refine F.ok sc (fun vs H Q E h => ?_) (fun cdv A outer s H vs Q E hr h => ?_)
  · obtain ⟨g, z, B, ss, _⟩ := h
    exact (Paired.length ss).trans rfl
  · obtain ⟨plan, z, B, ss, ex, hm, k⟩ := h
    obtain ⟨v0, rfl, z0⟩ := pn1 ss
    refine ⟨_, (pss_cons (ps_set (i := 1) sc.nd rfl (Or.inl rfl) (pe_callB (clen (K := K) rfl) (by rfl) T.b_len (by decide +kernel) (pa_cons (pv 0) pa_nil))) (pss_cons (ps_if (PW.pt (pw_or (pt_cmpR op_eq (pv 1) pe_int (nomark _)) (pw_or1 (pt_cmpR op_gt (pv 1) pe_int (nomark _))))) (pss_one (ps_ret (pe_un un_neg pe_int))) pss_nil) (pss_cons (ps_for (passes_of rfl) rfl (pi_range1 (by rfl) T.b_range (pa_cons (pv 1) pa_nil)) (pg_name (i := 2) sc.nd rfl (Or.inl rfl)) (pss_one (ps_if (pt_not (pt_chain op_le op_lt (pe_un un_neg pe_int) (pe_ix (ixl (K := K) rfl) (pv 0) (pv 2) (fun _ _ => rfl)) (pv 1))) (pss_one (ps_ret (pv 2))) pss_nil))) (pss_cons (ps_for (passes_of rfl) rfl (pi_range1 (by rfl) T.b_range (pa_cons (pv 1) pa_nil)) (pg_name (i := 2) sc.nd rfl (Or.inl rfl)) (pss_one (ps_if (pt_cmpR op_eq (pe_call G__law_end (hr.mono (by decide)) (by rfl) T.m__law_end F__law_end.kp b__law_end .nil passL (pa_cons (pv 0) (pa_cons (pv 2) pa_nil))) (pe_un un_neg pe_int) (nomark _)) (pss_one (ps_ret (pv 2))) pss_nil))) (pss_one (ps_ret (pe_un un_neg pe_int))))))), ?_⟩
    have w := Wd.start (K := K) ex
    unfold m__law_wrong_in_plan at hm
    refine s_asg w (ev_len (ev_var (S := (rLst rInt).s K plan) rfl z0) src_p) (fun v_2 B1 H1 x1 w1 h3 => ?_)
    try dsimp only
    refine s_if w1 (et_or (et_test (ev_eqI (ev_var (S := rInt.s K (plan.length : Int)) rfl h3) ev_int)) (fun _ => (et_test (ev_gt (ev_var (S := rInt.s K (plan.length : Int)) rfl h3) ev_int))) (fun _ => rfl)) (fun hb B4 H4 x4 w4 => ?_) (fun hb B4 H4 x4 w4 => ?_)
    · have hm := it hb hm
      refine s_ret w4 (ev_neg ev_int) (fun vv B5 H5 x5 w5 hv => ?_)
      cases hm
      exact k _ _ _ w5.st w5.ex ((imm_flat _) _ _ _ _ _ hv)
    · have hm := ie hb hm
      obtain ⟨xs6, e7, hm⟩ := ob hm
      refine s_for (R := rInt) (oo := (fun (rr : Unit) => [])) (ρ0 := ()) (fun (place9 : Int) (_ : Unit) => ((atI plan place9).bind fun t10 =>
cond (!(decide ((-(1 : Int)) ≤ t10) && decide (t10 < (plan.length : Int)))) (some (.rt place9)) (some (.nx ())) : Option (Ctl Unit Int))) (fun (_ : Unit) σ' B' => ∃ o_2 : Option V, σ' = [some v0, some v_2, o_2]) (fun zz => finK _ _ zz = some _) w4 (ei_r1 (ev_var (S := rInt.s K (plan.length : Int)) rfl (Sv.mono _ x4 h3)) e7) (fun rr σ' B1 B2 e ⟨o_2, hσ⟩ => ⟨o_2, hσ⟩) (fun B2 e => ⟨_, rfl⟩) hm ?_ ?_
      · rintro place9 rst rr vx8 σ' Bt8 Ht8 xt8 wt8 ⟨o_2t8, rfl⟩ hx8 hf N hN dn
        dsimp only [gName]
        obtain ⟨ctl, hfx, hbk8, hrt8⟩ := forL_step hf
        have hm := hfx
        obtain ⟨t10, e11, hm⟩ := ob hm
        try dsimp only
        refine s_if wt8 (et_not (et_test (ev_ch_le_lt (ev_neg ev_int) (ev_ix (ev_var (S := (rLst rInt).s K plan) rfl (Sv.mono _ xt8 (Sv.mono _ x4 (Sv.mono _ x1 z0)))) (ev_var (S := rInt.s K place9) rfl hx8) src_p e11) (ev_var (S := rInt.s K (plan.length : Int)) rfl (Sv.mono _ xt8 (Sv.mono _ x4 h3)))))) (fun hb B12 H12 x12 w12 => ?_) (fun hb B12 H12 x12 w12 => ?_)
        · have hm := it hb hm
          refine s_ret w12 (ev_var (S := rInt.s K place9) rfl (Sv.mono _ x12 hx8)) (fun vv B13 H13 x13 w13 hv => ?_)
          cases hm
          replace hm := hrt8 _ rfl
          cases hm
          exact k _ _ _ w13.st w13.ex ((imm_flat _) _ _ _ _ _ hv)
        · have hm := ie hb hm
          have hq_ := Option.some.inj hm
          subst hq_
          exact hN () _ _ _ hfx x12 w12 ⟨_, rfl⟩
      · rintro rr σ' B14 H14 x14 w14 ⟨o_2k15, rfl⟩ hm
        try dsimp only
        replace hm := finK_nx hm
        obtain ⟨xs16, e17, hm⟩ := ob hm
        refine s_for (R := rInt) (oo := (fun (rr : Unit) => [])) (ρ0 := ()) (fun (place19 : Int) (_ : Unit) => ((m__law_end (plan, place19)).bind fun r20 =>
cond (decide (r20 = (-(2 : Int)))) (some (.rt place19)) (some (.nx ())) : Option (Ctl Unit Int))) (fun (_ : Unit) σ' B' => ∃ o_2 : Option V, σ' = [some v0, some v_2, o_2]) (fun zz => finK _ _ zz = some _) w14 (ei_r1 (ev_var (S := rInt.s K (plan.length : Int)) rfl (Sv.mono _ x14 (Sv.mono _ x4 h3))) e17) (fun rr σ' B1 B2 e ⟨o_2, hσ⟩ => ⟨o_2, hσ⟩) (fun B2 e => ⟨_, rfl⟩) hm ?_ ?_
        · rintro place19 rst rr vx18 σ' Bt18 Ht18 xt18 wt18 ⟨o_2t18, rfl⟩ hx18 hf N hN dn
          dsimp only [gName]
          obtain ⟨ctl, hfx, hbk18, hrt18⟩ := forL_step hf
          have hm := hfx
          obtain ⟨r20, e21, hm⟩ := ob hm
          try dsimp only
          refine s_if wt18 (et_test (ev_eqI ((ev_call0 (g := (plan, place19)) (ea_cons (ev_var (S := (rLst rInt).s K plan) rfl (Sv.mono _ xt18 (Sv.mono _ x14 (Sv.mono _ x4 (Sv.mono _ x1 z0))))) (ea_cons (ev_var (S := rInt.s K place19) rfl hx18) ea_nil)) (al_p (fun _ z => z) (al_p (fun _ z => z) al_nil)) e21).le g_s) (ev_neg ev_int))) (fun hb B22 H22 x22 w22 => ?_) (fun hb B22 H22 x22 w22 => ?_)
          · have hm := it hb hm
            refine s_ret w22 (ev_var (S := rInt.s K place19) rfl (Sv.mono _ x22 hx18)) (fun vv B23 H23 x23 w23 hv => ?_)
            cases hm
            replace hm := hrt18 _ rfl
            cases hm
            exact k _ _ _ w23.st w23.ex ((imm_flat _) _ _ _ _ _ hv)
          · have hm := ie hb hm
            have hq_ := Option.some.inj hm
            subst hq_
            exact hN () _ _ _ hfx x22 w22 ⟨_, rfl⟩
        · rintro rr σ' B24 H24 x24 w24 ⟨o_2k25, rfl⟩ hm
          try dsimp only
          replace hm := finK_nx hm
          refine s_ret w24 (ev_neg ev_int) (fun vv B26 H26 x26 w26 hv => ?_)
          cases hm
          exact k _ _ _ w26.st w26.ex ((imm_flat _) _ _ _ _ _ hv)
def m__law_borne : (List (List Int)) × (List Int) → Option (Int) := fun (left, chosen) =>
  finK (fun (most4 : Int) => (some most4)) (fun (_ : Unit) => none) (forL (fun (place6 : Int) (most4 : Int) => ((rngO (0 : Int) ((left.length : Int) + (1 : Int))).bind fun xs7 =>
  finK (fun (most9 : Int) => (some (.nx most9))) (fun (_ : Unit) => none) (forL (fun (x_end11 : Int) (most9 : Int) => ((cond (!decide (x_end11 ∈ chosen)) ((atI left place6).bind fun t14 =>
  (atI t14 x_end11).bind fun t16 =>
  some (if t16 < most9 then t16 else most9)) (some most9)).bind fun most13 =>
  some (.nx most13) : Option (Ctl Int Unit))) xs7 most4) : Option (Ctl Int Unit))) chosen (16000001 : Int))
def p__law_borne (K : Fg) : Sp := Pr0 K (fun (g : (List (List Int)) × (List Int)) => [(rLst (rLst rInt)).s K g.1, (rLst rInt).s K g.2]) m__law_borne rInt
abbrev N__law_borne : List Str := ["left", "chosen", "most", "place", "end"]
theorem sc__law_borne : FnScope N__law_borne ["left", "chosen"] (defScope s__law_borne) := ⟨rfl, rfl, rfl, by decide +kernel, rfl, by decide +kernel, by decide +kernel⟩
theorem ok__law_borne {P : Program} {w : World} {K : Fg} {mg : Str → Option Value} {base : Heap} (T : Tx P K mg) {fd : FuncData} (F : FnP K "_law_borne" s__law_borne (He.ga K "_law_borne") fd) : FnOk P w K mg base (L2.CX P w) 1 (He.ga K "_law_borne") fd ["left", "chosen"] (p__law_borne K) := by
  have sc := sc__law_borne
  refine F.ok sc (fun vs H Q E h => ?_) (fun cdv A outer s H vs Q E hr h => ?_)
  · obtain ⟨g, z, B, ss, _⟩ := h
    exact (Paired.length ss).trans rfl
  · obtain ⟨⟨left, chosen⟩, z, B, ss, ex, hm, k⟩ := h
    obtain ⟨v0, v1, rfl, z0, z1⟩ := pn2 ss
    refine ⟨_, (pss_cons (ps_set (i := 2) sc.nd rfl (Or.inl rfl) pe_int) (pss_cons (ps_for (passes_of rfl) rfl (pi_list (pv 1)) (pg_name (i := 3) sc.nd rfl (Or.inl rfl)) (pss_one (ps_for (passes_of rfl) rfl (pi_range1 (by rfl) T.b_range (pa_cons (pe_op op_add (pe_callB (clen (K := K) rfl) (by rfl) T.b_len (by decide +kernel) (pa_cons (pv 0) pa_nil)) pe_int) pa_nil)) (pg_name (i := 4) sc.nd rfl (Or.inl rfl)) (pss_one (ps_if (pt_cmpR (opnin (K := K) rfl) (pv 4) (pv 1) (by rfl)) (pss_one (ps_set (i := 2) sc.nd rfl (Or.inl rfl) (pe_callB (call_min2 rfl) (by rfl) T.b_min (by decide +kernel) (pa_cons (pv 2) (pa_cons (pe_ix (ixl (K := K) rfl) (pe_ix (ixl (K := K) rfl) (pv 0) (pv 3) (fun _ _ => rfl)) (pv 4) (fun _ _ => rfl)) pa_nil))))) pss_nil))))) (pss_one (ps_ret (pv 2))))), ?_⟩
    have w := Wd.start (K := K) ex
    unfold m__law_borne at hm
    refine s_asg w ev_int (fun v_2 B1 H1 x1 w1 h3 => ?_)
    refine s_for (R := rInt) (oo := (fun (rr : Int) => [])) (ρ0 := (16000001 : Int)) (fun (place6 : Int) (most4 : Int) => ((rngO (0 : Int) ((left.length : Int) + (1 : Int))).bind fun xs7 =>
finK (fun (most9 : Int) => (some (.nx most9))) (fun (_ : Unit) => none) (forL (fun (x_end11 : Int) (most9 : Int) => ((cond (!decide (x_end11 ∈ chosen)) ((atI left place6).bind fun t14 =>
(atI t14 x_end11).bind fun t16 =>
some (if t16 < most9 then t16 else most9)) (some most9)).bind fun most13 =>
some (.nx most13) : Option (Ctl Int Unit))) xs7 most4) : Option (Ctl Int Unit))) (fun (rr : Int) σ' B' => ∃ v_2 : V, ∃ o_3 : Option V, ∃ o_4 : Option V, σ' = [some v0, some v1, some v_2, o_3, o_4] ∧ (rInt.s K rr).p v_2 B') (fun zz => finK _ _ zz = some _) w1 (ei_list (ev_var (S := (rLst rInt).s K chosen) rfl (Sv.mono _ x1 z1))) (fun rr σ' B1 B2 e ⟨v_2, o_3, o_4, hσ, hj0⟩ => ⟨v_2, o_3, o_4, hσ, Sv.mono _ e hj0⟩) (fun B2 e => ⟨v_2, _, _, rfl, (Sv.mono _ e h3)⟩) hm ?_ ?_
    · rintro place6 rst most4 vx5 σ' Bt5 Ht5 xt5 wt5 ⟨v_2t5, o_3t5, o_4t5, rfl, hj0t5⟩ hx5 hf N hN dn
      dsimp only [gName]
      obtain ⟨ctl, hfx, hbk5, hrt5⟩ := forL_step hf
      have hm := hfx
      obtain ⟨xs7, e8, hm⟩ := ob hm
      refine s_for (R := rInt) (oo := (fun (rr : Int) => [])) (ρ0 := most4) (fun (x_end11 : Int) (most9 : Int) => ((cond (!decide (x_end11 ∈ chosen)) ((atI left place6).bind fun t14 =>
(atI t14 x_end11).bind fun t16 =>
some (if t16 < most9 then t16 else most9)) (some most9)).bind fun most13 =>
some (.nx most13) : Option (Ctl Int Unit))) (fun (rr : Int) σ' B' => ∃ v_2 : V, ∃ o_4 : Option V, σ' = [some v0, some v1, some v_2, some vx5, o_4] ∧ (rInt.s K rr).p v_2 B') (fun zz => finK _ _ zz = some _) wt5 (ei_r1 (ev_add (ev_len (ev_var (S := (rLst (rLst rInt)).s K left) rfl (Sv.mono _ xt5 (Sv.mono _ x1 z0))) src_p) ev_int) e8) (fun rr σ' B1 B2 e ⟨v_2, o_4, hσ, hj0⟩ => ⟨v_2, o_4, hσ, Sv.mono _ e hj0⟩) (fun B2 e => ⟨v_2t5, _, rfl, (Sv.mono _ e hj0t5)⟩) hm ?_ ?_
      · rintro x_end11 rst most9 vx10 σ' Bt10 Ht10 xt10 wt10 ⟨v_2t10, o_4t10, rfl, hj0t10⟩ hx10 hf N hN dn
        dsimp only [gName]
        obtain ⟨ctl, hfx, hbk10, hrt10⟩ := forL_step hf
        have hm := hfx
        obtain ⟨rj, hA23, hm⟩ := ob hm
        refine s_ifJ (ks2 := []) (oo := (fun (rr : Int) => [])) (fun (rr : Int) σ' B' => ∃ v_2 : V, σ' = [some v0, some v1, some v_2, some vx5, some vx10] ∧ (rInt.s K rr).p v_2 B') (fun rr => rr = rj) wt10 (et_test (ev_notin (ev_var (S := rInt.s K x_end11) rfl hx10) (ev_var (S := (rLst rInt).s K chosen) rfl (Sv.mono _ xt10 (Sv.mono _ xt5 (Sv.mono _ x1 z1)))) src_p)) ?_ (fun hb B12 H12 x12 w12 N hN => ?_) (fun hb B12 H12 x12 w12 N hN => ?_)
        · rintro most13 σ' B21 H21 x21 w21 ⟨v_2k22, rfl, hj0k22⟩ hq
          subst hq
          try dsimp only
          have hq_ := Option.some.inj hm
          subst hq_
          exact hN most13 _ _ _ hfx x21 w21 ⟨v_2k22, _, rfl, hj0k22⟩
        · have hm := it hb hA23
          obtain ⟨t14, e15, hm⟩ := ob hm
          obtain ⟨t16, e17, hm⟩ := ob hm
          refine s_asg w12 (ev_min2 (ev_var (S := rInt.s K most9) rfl (Sv.mono _ x12 hj0t10)) (ev_ix (ev_ix (ev_var (S := (rLst (rLst rInt)).s K left) rfl (Sv.mono _ x12 (Sv.mono _ xt10 (Sv.mono _ xt5 (Sv.mono _ x1 z0))))) (ev_var (S := rInt.s K place6) rfl (Sv.mono _ x12 (Sv.mono _ xt10 hx5))) src_p e15) (ev_var (S := rInt.s K x_end11) rfl (Sv.mono _ x12 hx10)) src_p e17)) (fun v_19 B18 H18 x18 w18 h20 => ?_)
          have hq_ := Option.some.inj hm
          subst hq_
          exact hN (if t16 < most9 then t16 else most9) _ _ _ (x12.trans x18) w18 ⟨v_19, rfl, h20⟩ rfl
        · have hm := ie hb hA23
          have hq_ := Option.some.inj hm
          subst hq_
          exact hN most9 _ _ _ x12 w12 ⟨v_2t10, rfl, (Sv.mono _ x12 hj0t10)⟩ rfl
      · rintro most9 σ' B24 H24 x24 w24 ⟨v_2k25, o_4k25, rfl, hj0k25⟩ hm
        try dsimp only
        replace hm := finK_nx hm
        have hq_ := Option.some.inj hm
        subst hq_
        exact hN most9 _ _ _ hfx x24 w24 ⟨v_2k25, _, _, rfl, hj0k25⟩
    · rintro most4 σ' B26 H26 x26 w26 ⟨v_2k27, o_3k27, o_4k27, rfl, hj0k27⟩ hm
      try dsimp only
      replace hm := finK_nx hm
      refine s_ret w26 (ev_var (S := rInt.s K most4) rfl hj0k27) (fun vv B28 H28 x28 w28 hv => ?_)
      cases hm
      exact k _ _ _ w28.st w28.ex ((imm_flat _) _ _ _ _ _ hv)
def m__law_parts : (List Int) × (List (List Int)) × (List Int) → Option ((List ((List Int) × Int)) × (List Int)) := fun (state, table, shut) =>
  (m__law_copy table).bind fun r1 =>
  (m__law_draw (state, (5 : Int))).bind fun (r12, state14) =>
  (rngO (0 : Int) r12).bind fun xs15 =>
  finK (fun (rr : (List Int) × (List (List Int)) × (List ((List Int) × Int))) => match rr with | (state17, left18, parts19) => (some (parts19, state17))) (fun (_ : Unit) => none) (forL (fun (turn21 : Int) (rr : (List Int) × (List (List Int)) × (List ((List Int) × Int))) => (match rr with | (state17, left18, parts19) => ((lcO (fun (place : Int) (rr : (List Int)) => match rr with | state17 => (m__law_draw (state17, (2 : Int))).bind fun (r22, state24) => some ((decide (r22 = (1 : Int))), state24)) (fun (place : Int) (rr : (List Int)) => match rr with | state24 => some (place, state24)) (isort shut) state17).bind fun (ys25, state27) =>
  (cond (decide ((ys25.length : Int) = (0 : Int))) ((m__law_draw (state27, (shut.length : Int))).bind fun (r34, state36) =>
  (atI shut r34).bind fun t37 =>
  some (state36, [t37])) (some (state27, ys25))).bind fun (state32, chosen33) =>
  (m__law_borne (left18, chosen33)).bind fun r44 =>
  (m__law_draw (state32, (3 : Int))).bind fun (r49, state51) =>
  (cond (decide (r49 = (0 : Int))) ((m__law_draw (state51, (r44 + (1 : Int)))).bind fun (r55, state57) =>
  some (state57, r55)) (some (state51, r44))).bind fun (state53, price54) =>
  finK (fun (left63 : (List (List Int))) => ((appO parts19 (chosen33, price54)).bind fun parts100 =>
  some (.nx (state53, left63, parts100)))) (fun (_ : Unit) => none) (forL (fun (place65 : Int) (left63 : (List (List Int))) => ((rowO left63 place65).bind fun (j66, row67) =>
  (rngO (0 : Int) (row67.length : Int)).bind fun xs76 =>
  finK (fun (rr : (List (List Int)) × (List Int)) => match rr with | (left78, row79) => (some (.nx left78))) (fun (_ : Unit) => none) (forL (fun (x_end81 : Int) (rr : (List (List Int)) × (List Int)) => (match rr with | (left78, row79) => ((cond (!decide (x_end81 ∈ chosen33)) ((atI row79 x_end81).bind fun t85 =>
  (setO row79 x_end81 (t85 - price54)).bind fun row87 =>
  some ((left78.set j66 row87), row87)) (some (left78, row79))).bind fun (left83, row84) =>
  some (.nx (left83, row84))) : Option (Ctl ((List (List Int)) × (List Int)) Unit))) xs76 (left63, row67)) : Option (Ctl (List (List Int)) Unit))) chosen33 left18)) : Option (Ctl ((List Int) × (List (List Int)) × (List ((List Int) × Int))) Unit))) xs15 (state14, r1, ([] : List ((List Int) × Int))))
def p__law_parts (K : Fg) : Sp := Pr1 K (fun (g : (List Int) × (List (List Int)) × (List Int)) p => [SA p, (rLst (rLst rInt)).s K g.2.1, (rLst rInt).s K g.2.2]) (fun g => CL rInt K g.1) m__law_parts (fun e => CL rInt K e) (rLst (rT2 (rTpl rInt) rInt))
abbrev N__law_parts : List Str := ["state", "table", "shut", "left", "parts", "turn", "chosen", "place", "price", "row", "end"]
theorem sc__law_parts : FnScope N__law_parts ["state", "table", "shut"] (defScope s__law_parts) := ⟨rfl, rfl, rfl, by decide +kernel, rfl, by decide +kernel, by decide +kernel⟩
theorem ok__law_parts {P : Program} {w : World} {K : Fg} {mg : Str → Option Value} {base : Heap} (T : Tx P K mg) {fd : FuncData} (F : FnP K "_law_parts" s__law_parts (He.ga K "_law_parts") fd) : FnOk P w K mg base (L2.CX P w) 2 (He.ga K "_law_parts") fd ["state", "table", "shut"] (p__law_parts K) := by
  obtain ⟨fd__law_borne, F__law_borne⟩ := T.f__law_borne
  have G__law_borne : FnOk P w K mg base (L2.CX P w) 1 (He.ga K "_law_borne") fd__law_borne ["left", "chosen"] (p__law_borne K) := ok__law_borne T F__law_borne
  have b__law_borne : Binds K fd__law_borne ["left", "chosen"] [] := F__law_borne.bindsN fun _ _ _ _ _ _ us hl => match us, hl with | [_, _], _ => rfl
  obtain ⟨fd__law_copy, F__law_copy⟩ := T.f__law_copy
  have G__law_copy : FnOk P w K mg base (L2.CX P w) 1 (He.ga K "_law_copy") fd__law_copy ["table"] (p__law_copy K) := ok__law_copy T F__law_copy
  have b__law_copy : Binds K fd__law_copy ["table"] [] := F__law_copy.bindsN fun _ _ _ _ _ _ us hl => match us, hl with | [_], _ => rfl
  obtain ⟨fd__law_draw, F__law_draw⟩ := T.f__law_draw
  have G__law_draw : FnOk P w K mg base (L2.CX P w) 1 (He.ga K "_law_draw") fd__law_draw ["state", "many"] (p__law_draw K) := ok__law_draw T F__law_draw
  have b__law_draw : Binds K fd__law_draw ["state", "many"] [] := F__law_draw.bindsN fun _ _ _ _ _ _ us hl => match us, hl with | [_, _], _ => rfl
  have sc := sc__law_parts
  refine F.ok sc (fun vs H Q E h => ?_) (fun cdv A outer s H vs Q E hr h => ?_)
  · obtain ⟨g, p, z, B, o, ss, _⟩ := h
    exact (Paired.length ss).trans rfl
  · obtain ⟨⟨state, table, shut⟩, p0, z, B, o, ss, ex, h1, h2, h3, h4, hm, k⟩ := h
    obtain ⟨v0, v1, v2, rfl, z0, z1, z2⟩ := pn3 ss
    cases (show _ = V.ref p0 from z0)
    refine ⟨_, (pss_cons (ps_set (i := 3) sc.nd rfl (Or.inl rfl) (pe_call G__law_copy (hr.mono (by decide)) (by rfl) T.m__law_copy F__law_copy.kp b__law_copy .nil passL (pa_cons (pv 1) pa_nil))) (pss_cons (ps_set (i := 4) sc.nd rfl (Or.inl rfl) (pe_lst pa_nil)) (pss_cons (ps_for (passes_of rfl) rfl (pi_range1 (by rfl) T.b_range (pa_cons (pe_call G__law_draw (hr.mono (by decide)) (by rfl) T.m__law_draw F__law_draw.kp b__law_draw .nil passL (pa_cons (pv 0) (pa_cons pe_int pa_nil))) pa_nil)) (pg_name (i := 5) sc.nd rfl (Or.inl rfl)) (pss_cons (ps_setLc (i := 6) (own := [("place", 7)]) (g := (gName 7)) (by rfl) sc.nd rfl rfl (sw_true rfl rfl rfl (by decide +kernel)) (pi_list (pe_callB (csrt (K := K) rfl) (by rfl) T.b_sorted (by decide +kernel) (pa_cons (pv 2) pa_nil))) (blkOk_by (own := [("place", 7)]) (N := N__law_parts) (sc := defScope s__law_parts) (by decide +kernel)) (fun _ _ _ _ _ => pg_name (i := 7) sc.nd rfl (Or.inl rfl)) (fun _ _ _ _ _ => pts_one (pt_cmpR op_eq (pe_call G__law_draw (hr.mono (by decide)) (by rfl) T.m__law_draw F__law_draw.kp b__law_draw .nil passL (pa_cons (pv 0) (pa_cons pe_int pa_nil))) pe_int (nomark _))) (fun _ _ _ _ _ => (pv 7))) (pss_cons (ps_if (pt_cmpR op_eq (pe_callB (clen (K := K) rfl) (by rfl) T.b_len (by decide +kernel) (pa_cons (pv 6) pa_nil)) pe_int (nomark _)) (pss_one (ps_set (i := 6) sc.nd rfl (Or.inl rfl) (pe_lst (pa_cons (pe_ix (ixl (K := K) rfl) (pv 2) (pe_call G__law_draw (hr.mono (by decide)) (by rfl) T.m__law_draw F__law_draw.kp b__law_draw .nil passL (pa_cons (pv 0) (pa_cons (pe_callB (clen (K := K) rfl) (by rfl) T.b_len (by decide +kernel) (pa_cons (pv 2) pa_nil)) pa_nil))) (fun _ _ => rfl)) pa_nil)))) pss_nil) (pss_cons (ps_set (i := 8) sc.nd rfl (Or.inl rfl) (pe_call G__law_borne (hr.mono (by decide)) (by rfl) T.m__law_borne F__law_borne.kp b__law_borne .nil passL (pa_cons (pv 3) (pa_cons (pv 6) pa_nil)))) (pss_cons (ps_if (pt_cmpR op_eq (pe_call G__law_draw (hr.mono (by decide)) (by rfl) T.m__law_draw F__law_draw.kp b__law_draw .nil passL (pa_cons (pv 0) (pa_cons pe_int pa_nil))) pe_int (nomark _)) (pss_one (ps_set (i := 8) sc.nd rfl (Or.inl rfl) (pe_call G__law_draw (hr.mono (by decide)) (by rfl) T.m__law_draw F__law_draw.kp b__law_draw .nil passL (pa_cons (pv 0) (pa_cons (pe_op op_add (pv 8) pe_int) pa_nil))))) pss_nil) (pss_cons (ps_for (passes_of rfl) rfl (pi_list (pv 6)) (pg_name (i := 7) sc.nd rfl (Or.inl rfl)) (pss_cons (ps_set (i := 9) sc.nd rfl (Or.inl rfl) (pe_ix (ixl (K := K) rfl) (pv 3) (pv 7) (fun _ _ => rfl))) (pss_one (ps_for (passes_of rfl) rfl (pi_range1 (by rfl) T.b_range (pa_cons (pe_callB (clen (K := K) rfl) (by rfl) T.b_len (by decide +kernel) (pa_cons (pv 9) pa_nil)) pa_nil)) (pg_name (i := 10) sc.nd rfl (Or.inl rfl)) (pss_one (ps_if (pt_cmpR (opnin (K := K) rfl) (pv 10) (pv 6) (by rfl)) (pss_one (ps_asg (pe_op op_sub (pe_ix (ixl (K := K) rfl) (pv 9) (pv 10) (fun _ _ => rfl)) (pv 8)) (pg_sub (pv 9) (pv 10) set_list))) pss_nil)))))) (pss_one (ps_expr (pe_bm PySem.F.plainAttrs_list PySem.F.slot_list_append PySem.F.type_list_append mt_append (pv 4) (pa_cons (pe_tup (pa_cons (pe_callTy (ctup (K := K) rfl) (by rfl) T.b_tuple (by decide +kernel) (pa_cons (pv 6) pa_nil)) (pa_cons (pv 8) pa_nil))) pa_nil)))))))))) (pss_one (ps_ret (pv 4)))))), ?_⟩
    have w := Wd.start1 (K := K) ex h1 h2 h3 h4
    unfold m__law_parts at hm
    obtain ⟨r1, e2, hm⟩ := ob hm
    refine s_ownT w (ev_call0 (g := table) (ea_cons (ev_var (S := (rLst (rLst rInt)).s K table) rfl z1) ea_nil) (al_p (fun _ z => z) al_nil) e2) ⟨csi (imm_flat _), trivial⟩ (fun q4 rs5 B3 H3 x3 hl8 n6 nr7 w3 => ?_)
    refine s_ownNil (rT2 (rTpl rInt) rInt) w3 (fun q10 H9 n11 w9 => ?_)
    obtain ⟨⟨r12, state14⟩, e13, hm⟩ := ob hm
    try dsimp only at hm
    obtain ⟨xs15, e16, hm⟩ := ob hm
    refine s_for (R := rInt) (oo := (fun (rr : (List Int) × (List (List Int)) × (List ((List Int) × Int))) => (CL (rT2 (rTpl rInt) rInt) K rr.2.2 :: CL rInt K rr.1 :: CO rs5 :: List.map (CL rInt K) rr.2.1))) (ρ0 := (state14, r1, ([] : List ((List Int) × Int)))) (fun (turn21 : Int) (rr : (List Int) × (List (List Int)) × (List ((List Int) × Int))) => (match rr with | (state17, left18, parts19) => ((lcO (fun (place : Int) (rr : (List Int)) => match rr with | state17 => (m__law_draw (state17, (2 : Int))).bind fun (r22, state24) => some ((decide (r22 = (1 : Int))), state24)) (fun (place : Int) (rr : (List Int)) => match rr with | state24 => some (place, state24)) (isort shut) state17).bind fun (ys25, state27) =>
(cond (decide ((ys25.length : Int) = (0 : Int))) ((m__law_draw (state27, (shut.length : Int))).bind fun (r34, state36) =>
(atI shut r34).bind fun t37 =>
some (state36, [t37])) (some (state27, ys25))).bind fun (state32, chosen33) =>
(m__law_borne (left18, chosen33)).bind fun r44 =>
(m__law_draw (state32, (3 : Int))).bind fun (r49, state51) =>
(cond (decide (r49 = (0 : Int))) ((m__law_draw (state51, (r44 + (1 : Int)))).bind fun (r55, state57) =>
some (state57, r55)) (some (state51, r44))).bind fun (state53, price54) =>
finK (fun (left63 : (List (List Int))) => ((appO parts19 (chosen33, price54)).bind fun parts100 =>
some (.nx (state53, left63, parts100)))) (fun (_ : Unit) => none) (forL (fun (place65 : Int) (left63 : (List (List Int))) => ((rowO left63 place65).bind fun (j66, row67) =>
(rngO (0 : Int) (row67.length : Int)).bind fun xs76 =>
finK (fun (rr : (List (List Int)) × (List Int)) => match rr with | (left78, row79) => (some (.nx left78))) (fun (_ : Unit) => none) (forL (fun (x_end81 : Int) (rr : (List (List Int)) × (List Int)) => (match rr with | (left78, row79) => ((cond (!decide (x_end81 ∈ chosen33)) ((atI row79 x_end81).bind fun t85 =>
(setO row79 x_end81 (t85 - price54)).bind fun row87 =>
some ((left78.set j66 row87), row87)) (some (left78, row79))).bind fun (left83, row84) =>
some (.nx (left83, row84))) : Option (Ctl ((List (List Int)) × (List Int)) Unit))) xs76 (left63, row67)) : Option (Ctl (List (List Int)) Unit))) chosen33 left18)) : Option (Ctl ((List Int) × (List (List Int)) × (List ((List Int) × Int))) Unit))) (fun (rr : (List Int) × (List (List Int)) × (List ((List Int) × Int))) σ' B' => ∃ o_5 : Option V, ∃ o_6 : Option V, ∃ o_7 : Option V, ∃ o_8 : Option V, ∃ o_9 : Option V, ∃ o_10 : Option V, σ' = [some (.ref p0), some v1, some v2, some (.ref q4), some (.ref q10), o_5, o_6, o_7, o_8, o_9, o_10] ∧ rs5.length = rr.2.1.length) (fun zz => finK _ _ zz = some _) w9 (ei_r1 ((ev_call1 (g := (state, (5 : Int))) 1 rfl (ea_cons (ev_var (S := SA p0) rfl rfl) (ea_cons ev_int ea_nil)) rfl (al_p (fun a z => List.mem_of_mem_eraseIdx z) (al_p (fun a z => List.mem_of_mem_eraseIdx z) al_nil)) e13 (csi (imm_flat _))).le g_s) e16) (fun rr σ' B1 B2 e ⟨o_5, o_6, o_7, o_8, o_9, o_10, hσ, hj0⟩ => ⟨o_5, o_6, o_7, o_8, o_9, o_10, hσ, hj0⟩) (fun B2 e => ⟨_, _, _, _, _, _, rfl, hl8⟩) hm ?_ ?_
    · rintro turn21 rst rr vx20 σ' Bt20 Ht20 xt20 wt20 ⟨o_5t20, o_6t20, o_7t20, o_8t20, o_9t20, o_10t20, rfl, hj0t20⟩ hx20 hf N hN dn
      dsimp only [gName]
      obtain ⟨state17, left18, parts19⟩ := rr
      obtain ⟨ctl, hfx, hbk20, hrt20⟩ := forL_step hf
      have hm := hfx
      obtain ⟨⟨ys25, state27⟩, e26, hm⟩ := ob hm
      try dsimp only at hm
      refine s_asg wt20 ((ev_lc (R := rInt) (R' := rInt) (oo := (fun (rr : (List Int)) => (CL (rT2 (rTpl rInt) rInt) K parts19 :: CL rInt K rr :: CO rs5 :: List.map (CL rInt K) left18))) (fun (place : Int) (rr : (List Int)) => match rr with | state17 => (m__law_draw (state17, (2 : Int))).bind fun (r22, state24) => some ((decide (r22 = (1 : Int))), state24)) (fun (place : Int) (rr : (List Int)) => match rr with | state24 => some (place, state24)) (lcT rInt K _ 7 [7]) (ei_list ((ev_sortI (ev_var (S := (rLst rInt).s K shut) rfl (Sv.mono _ xt20 (Sv.mono _ x3 z2))) src_p).le sn_s)) e26 (lcT_mono _ _ _ _ _) (lcT_name rfl 7 [7] (by intro x; rfl)) (fun place state17 bb r1 σ2 B' pD acc ht eB ⟨vx, hσ, hx⟩ => by subst hσ; obtain ⟨⟨r22, state24⟩, e23, ht⟩ := ob ht; try dsimp only at ht; cases ht; exact (et_test (ev_eqI ((ev_call1 (g := (state17, (2 : Int))) 2 rfl (ea_cons (ev_var (S := SA p0) rfl rfl) (ea_cons ev_int ea_nil)) rfl (al_p (fun a z => List.mem_of_mem_eraseIdx z) (al_p (fun a z => List.mem_of_mem_eraseIdx z) al_nil)) e23 (csi (imm_flat _))).le g_s) ev_int))) (fun place state24 yy r1 σ2 B' pD acc he eB ⟨vx, hσ, hx⟩ => by subst hσ; cases he; exact (ev_var (S := rInt.s K place) rfl hx))).le sn_s) (fun v_29 B28 H28 x28 w28 h30 => ?_)
      obtain ⟨rj, hA104, hm⟩ := ob hm
      refine s_ifJ (ks2 := (q10 :: p0 :: q4 :: rs5)) (oo := (fun (rr : (List Int) × (List Int)) => (CL (rT2 (rTpl rInt) rInt) K parts19 :: CL rInt K rr.1 :: CO rs5 :: List.map (CL rInt K) left18))) (fun (rr : (List Int) × (List Int)) σ' B' => ∃ v_6 : V, ∃ o_7 : Option V, ∃ o_8 : Option V, ∃ o_9 : Option V, ∃ o_10 : Option V, σ' = [some (.ref p0), some v1, some v2, some (.ref q4), some (.ref q10), some vx20, some v_6, o_7, o_8, o_9, o_10] ∧ ((rLst rInt).s K rr.2).p v_6 B') (fun rr => rr = rj) w28 (et_test (ev_eqI (ev_len (ev_var (S := (rLst rInt).s K ys25) rfl h30) src_p) ev_int)) ?_ (fun hb B31 H31 x31 w31 N hN => ?_) (fun hb B31 H31 x31 w31 N hN => ?_)
      · rintro rr σ' B42 H42 x42 w42 ⟨v_6k43, o_7k43, o_8k43, o_9k43, o_10k43, rfl, hj0k43⟩ hq
        subst hq
        obtain ⟨state32, chosen33⟩ := rr
        try dsimp only
        obtain ⟨r44, e45, hm⟩ := ob hm
        refine s_asg w42 ((ev_call0 (g := (left18, chosen33)) (ea_cons (ev_var (S := SA q4) rfl rfl) (ea_cons (ev_var (S := (rLst rInt).s K chosen33) rfl hj0k43) ea_nil)) (al_T [q10, p0] [CL (rT2 (rTpl rInt) rInt) K parts19, CL rInt K state32] rfl rfl rfl (fun a h => List.mem_append_right [q10, p0] h) (fun _ z => z) (al_p (fun _ z => z) al_nil)) e45).le g_s) (fun v_47 B46 H46 x46 w46 h48 => ?_)
        obtain ⟨⟨r49, state51⟩, e50, hm⟩ := ob hm
        try dsimp only at hm
        obtain ⟨rj, hA103, hm⟩ := ob hm
        refine s_ifJ (ks2 := (q10 :: p0 :: q4 :: rs5)) (oo := (fun (rr : (List Int) × Int) => (CL (rT2 (rTpl rInt) rInt) K parts19 :: CL rInt K rr.1 :: CO rs5 :: List.map (CL rInt K) left18))) (fun (rr : (List Int) × Int) σ' B' => ∃ o_7 : Option V, ∃ v_8 : V, ∃ o_9 : Option V, ∃ o_10 : Option V, σ' = [some (.ref p0), some v1, some v2, some (.ref q4), some (.ref q10), some vx20, some v_6k43, o_7, some v_8, o_9, o_10] ∧ (rInt.s K rr.2).p v_8 B') (fun rr => rr = rj) w46 (et_test (ev_eqI ((ev_call1 (g := (state32, (3 : Int))) 1 rfl (ea_cons (ev_var (S := SA p0) rfl rfl) (ea_cons ev_int ea_nil)) rfl (al_p (fun a z => List.mem_of_mem_eraseIdx z) (al_p (fun a z => List.mem_of_mem_eraseIdx z) al_nil)) e50 (csi (imm_flat _))).le g_s) ev_int)) ?_ (fun hb B52 H52 x52 w52 N hN => ?_) (fun hb B52 H52 x52 w52 N hN => ?_)
        · rintro rr σ' B61 H61 x61 w61 ⟨o_7k62, v_8k62, o_9k62, o_10k62, rfl, hj0k62⟩ hq
          subst hq
          obtain ⟨state53, price54⟩ := rr
          try dsimp only
          refine s_for (R := rInt) (oo := (fun (rr : (List (List Int))) => (CL (rT2 (rTpl rInt) rInt) K parts19 :: CL rInt K state53 :: CO rs5 :: List.map (CL rInt K) rr))) (ρ0 := left18) (fun (place65 : Int) (left63 : (List (List Int))) => ((rowO left63 place65).bind fun (j66, row67) =>
(rngO (0 : Int) (row67.length : Int)).bind fun xs76 =>
finK (fun (rr : (List (List Int)) × (List Int)) => match rr with | (left78, row79) => (some (.nx left78))) (fun (_ : Unit) => none) (forL (fun (x_end81 : Int) (rr : (List (List Int)) × (List Int)) => (match rr with | (left78, row79) => ((cond (!decide (x_end81 ∈ chosen33)) ((atI row79 x_end81).bind fun t85 =>
(setO row79 x_end81 (t85 - price54)).bind fun row87 =>
some ((left78.set j66 row87), row87)) (some (left78, row79))).bind fun (left83, row84) =>
some (.nx (left83, row84))) : Option (Ctl ((List (List Int)) × (List Int)) Unit))) xs76 (left63, row67)) : Option (Ctl (List (List Int)) Unit))) (fun (rr : (List (List Int))) σ' B' => ∃ o_7 : Option V, ∃ o_9 : Option V, ∃ o_10 : Option V, σ' = [some (.ref p0), some v1, some v2, some (.ref q4), some (.ref q10), some vx20, some v_6k43, o_7, some v_8k62, o_9, o_10] ∧ rs5.length = rr.length) (fun zz => finK _ _ zz = some _) w61 (ei_list (ev_var (S := (rLst rInt).s K chosen33) rfl (Sv.mono _ x61 (Sv.mono _ x46 hj0k43)))) (fun rr σ' B1 B2 e ⟨o_7, o_9, o_10, hσ, hj0⟩ => ⟨o_7, o_9, o_10, hσ, hj0⟩) (fun B2 e => ⟨_, _, _, rfl, hj0t20⟩) hm ?_ ?_
          · rintro place65 rst left63 vx64 σ' Bt64 Ht64 xt64 wt64 ⟨o_7t64, o_9t64, o_10t64, rfl, hj0t64⟩ hx64 hf N hN dn
            dsimp only [gName]
            obtain ⟨ctl, hfx, hbk64, hrt64⟩ := forL_step hf
            have hm := hfx
            obtain ⟨⟨j66, row67⟩, e68, hm⟩ := ob hm
            obtain ⟨hj70, hr71⟩ := rowO_eq e68
            obtain ⟨q69, hq72⟩ := rs_at hj0t64 hr71
            try dsimp only at hm
            refine s_asg wt64 (ev_row 2 rfl (ev_var (S := SA q4) rfl rfl) (ev_var (S := rInt.s K place65) rfl hx64) rfl hj0t64 hj70 hq72) (fun v_74 B73 H73 x73 w73 h75 => ?_)
            cases (show v_74 = _ from h75)
            obtain ⟨xs76, e77, hm⟩ := ob hm
            refine s_for (R := rInt) (oo := (fun (rr : (List (List Int)) × (List Int)) => (CL (rT2 (rTpl rInt) rInt) K parts19 :: CL rInt K state53 :: CO rs5 :: List.map (CL rInt K) rr.1))) (ρ0 := (left63, row67)) (fun (x_end81 : Int) (rr : (List (List Int)) × (List Int)) => (match rr with | (left78, row79) => ((cond (!decide (x_end81 ∈ chosen33)) ((atI row79 x_end81).bind fun t85 =>
(setO row79 x_end81 (t85 - price54)).bind fun row87 =>
some ((left78.set j66 row87), row87)) (some (left78, row79))).bind fun (left83, row84) =>
some (.nx (left83, row84))) : Option (Ctl ((List (List Int)) × (List Int)) Unit))) (fun (rr : (List (List Int)) × (List Int)) σ' B' => ∃ o_10 : Option V, σ' = [some (.ref p0), some v1, some v2, some (.ref q4), some (.ref q10), some vx20, some v_6k43, some vx64, some v_8k62, some (.ref q69), o_10] ∧ rs5.length = rr.1.length ∧ rr.1[j66]? = some rr.2) (fun zz => finK _ _ zz = some _) w73 (ei_r1 (ev_len (ev_var (S := SA q69) rfl rfl) (src_o (R := rInt) (xs := row67) (j66 + 3) (by simpa using hq72) (show _ = some (CL rInt K row67) by simp [hr71, rInt, rTag, rBool]))) e77) (fun rr σ' B1 B2 e ⟨o_10, hσ, hj0, hj1⟩ => ⟨o_10, hσ, hj0, hj1⟩) (fun B2 e => ⟨_, rfl, hj0t64, hr71⟩) hm ?_ ?_
            · rintro x_end81 rst rr vx80 σ' Bt80 Ht80 xt80 wt80 ⟨o_10t80, rfl, hj0t80, hj1t80⟩ hx80 hf N hN dn
              dsimp only [gName]
              obtain ⟨left78, row79⟩ := rr
              obtain ⟨ctl, hfx, hbk80, hrt80⟩ := forL_step hf
              have hm := hfx
              obtain ⟨rj, hA95, hm⟩ := ob hm
              refine s_ifJ (ks2 := (q10 :: p0 :: q4 :: rs5)) (oo := (fun (rr : (List (List Int)) × (List Int)) => (CL (rT2 (rTpl rInt) rInt) K parts19 :: CL rInt K state53 :: CO rs5 :: List.map (CL rInt K) rr.1))) (fun (rr : (List (List Int)) × (List Int)) σ' B' => σ' = [some (.ref p0), some v1, some v2, some (.ref q4), some (.ref q10), some vx20, some v_6k43, some vx64, some v_8k62, some (.ref q69), some vx80] ∧ rs5.length = rr.1.length ∧ rr.1[j66]? = some rr.2) (fun rr => rr = rj) wt80 (et_test (ev_notin (ev_var (S := rInt.s K x_end81) rfl hx80) (ev_var (S := (rLst rInt).s K chosen33) rfl (Sv.mono _ xt80 (Sv.mono _ x73 (Sv.mono _ xt64 (Sv.mono _ x61 (Sv.mono _ x46 hj0k43)))))) src_p)) ?_ (fun hb B82 H82 x82 w82 N hN => ?_) (fun hb B82 H82 x82 w82 N hN => ?_)
              · rintro rr σ' B93 H93 x93 w93 ⟨rfl, hj0k94, hj1k94⟩ hq
                subst hq
                obtain ⟨left83, row84⟩ := rr
                try dsimp only
                have hq_ := Option.some.inj hm
                subst hq_
                exact hN (left83, row84) _ _ _ hfx x93 w93 ⟨_, rfl, hj0k94, hj1k94⟩
              · have hm := it hb hA95
                obtain ⟨t85, e86, hm⟩ := ob hm
                obtain ⟨row87, e88, hm⟩ := ob hm
                refine s_set (j66 + 3) (by simpa using hq72) w82 (ev_sub (ev_ix (ev_var (S := SA q69) rfl rfl) (ev_var (S := rInt.s K x_end81) rfl (Sv.mono _ x82 hx80)) (src_o (R := rInt) (xs := row79) (j66 + 3) (by simpa using hq72) (show _ = some (CL rInt K row79) by simp [hj1t80, rInt, rTag, rBool])) e86) (ev_var (S := rInt.s K price54) rfl (Sv.mono _ x82 (Sv.mono _ xt80 (Sv.mono _ x73 (Sv.mono _ xt64 hj0k62)))))) (ev_var (S := SA q69) rfl rfl) (ev_var (S := rInt.s K x_end81) rfl (Sv.mono _ x82 hx80)) (show _ = some (CL rInt K row79) by simp [hj1t80, rInt, rTag, rBool]) e88 (fun B89 H89 x89 w89 => ?_)
                have w90 := Wd.eq (os' := (CL (rT2 (rTpl rInt) rInt) K parts19 :: CL rInt K state53 :: CO rs5 :: List.map (CL rInt K) (left78.set j66 row87))) w89 (by simp [List.map_set, rInt, rTag, rBool])
                have hl91 := len_set (j := j66) (y := row87) hj0t80
                have hr92 := set_at (y := row87) hj1t80
                have hq_ := Option.some.inj hm
                subst hq_
                exact hN ((left78.set j66 row87), row87) _ _ _ (x82.trans x89) w90 ⟨rfl, hl91, hr92⟩ rfl
              · have hm := ie hb hA95
                have hq_ := Option.some.inj hm
                subst hq_
                exact hN (left78, row79) _ _ _ x82 w82 ⟨rfl, hj0t80, hj1t80⟩ rfl
            · rintro rr σ' B96 H96 x96 w96 ⟨o_10k97, rfl, hj0k97, hj1k97⟩ hm
              try dsimp only
              replace hm := finK_nx hm
              obtain ⟨left78, row79⟩ := rr
              have hq_ := Option.some.inj hm
              subst hq_
              exact hN left78 _ _ _ hfx (x73.trans x96) w96 ⟨_, _, _, rfl, hj0k97⟩
          · rintro left63 σ' B98 H98 x98 w98 ⟨o_7k99, o_9k99, o_10k99, rfl, hj0k99⟩ hm
            try dsimp only
            replace hm := finK_nx hm
            obtain ⟨parts100, e101, hm⟩ := ob hm
            refine s_drop w98 (ev_app 0 rfl (ev_var (S := SA q10) rfl rfl) rfl (ev_T2 (ea_cons (ev_tuple (ev_var (S := (rLst rInt).s K chosen33) rfl (Sv.mono _ x98 (Sv.mono _ x61 (Sv.mono _ x46 hj0k43)))) src_p) (ea_cons (ev_var (S := rInt.s K price54) rfl (Sv.mono _ x98 hj0k62)) ea_nil))) rfl e101) (fun B102 H102 x102 w102 => ?_)
            have hq_ := Option.some.inj hm
            subst hq_
            exact hN (state53, left63, parts100) _ _ _ hfx (((((x28.trans x42).trans x46).trans x61).trans x98).trans x102) w102 ⟨_, _, _, _, _, _, rfl, hj0k99⟩
        · have hm := it hb hA103
          obtain ⟨⟨r55, state57⟩, e56, hm⟩ := ob hm
          try dsimp only at hm
          refine s_asg w52 ((ev_call1 (g := (state51, (r44 + (1 : Int)))) 1 rfl (ea_cons (ev_var (S := SA p0) rfl rfl) (ea_cons (ev_add (ev_var (S := rInt.s K r44) rfl (Sv.mono _ x52 h48)) ev_int) ea_nil)) rfl (al_p (fun a z => List.mem_of_mem_eraseIdx z) (al_p (fun a z => List.mem_of_mem_eraseIdx z) al_nil)) e56 (csi (imm_flat _))).le g_s) (fun v_59 B58 H58 x58 w58 h60 => ?_)
          have hq_ := Option.some.inj hm
          subst hq_
          exact hN (state57, r55) _ _ _ (x52.trans x58) w58 ⟨_, v_59, _, _, rfl, h60⟩ rfl
        · have hm := ie hb hA103
          have hq_ := Option.some.inj hm
          subst hq_
          exact hN (state51, r44) _ _ _ x52 w52 ⟨_, v_47, _, _, rfl, (Sv.mono _ x52 h48)⟩ rfl
      · have hm := it hb hA104
        obtain ⟨⟨r34, state36⟩, e35, hm⟩ := ob hm
        try dsimp only at hm
        obtain ⟨t37, e38, hm⟩ := ob hm
        refine s_asg w31 ((ev_lst (R := rInt) (xs := [t37]) (ea_cons (ev_ix (ev_var (S := (rLst rInt).s K shut) rfl (Sv.mono _ x31 (Sv.mono _ x28 (Sv.mono _ xt20 (Sv.mono _ x3 z2))))) ((ev_call1 (g := (state27, (shut.length : Int))) 1 rfl (ea_cons (ev_var (S := SA p0) rfl rfl) (ea_cons (ev_len (ev_var (S := (rLst rInt).s K shut) rfl (Sv.mono _ x31 (Sv.mono _ x28 (Sv.mono _ xt20 (Sv.mono _ x3 z2))))) src_p) ea_nil)) rfl (al_p (fun a z => List.mem_of_mem_eraseIdx z) (al_p (fun a z => List.mem_of_mem_eraseIdx z) al_nil)) e35 (csi (imm_flat _))).le g_s) src_p e38) ea_nil) (by show 1 ≤ 1000; decide)).le sn_s) (fun v_40 B39 H39 x39 w39 h41 => ?_)
        have hq_ := Option.some.inj hm
        subst hq_
        exact hN (state36, [t37]) _ _ _ (x31.trans x39) w39 ⟨v_40, _, _, _, _, rfl, h41⟩ rfl
      · have hm := ie hb hA104
        have hq_ := Option.some.inj hm
        subst hq_
        exact hN (state27, ys25) _ _ _ x31 w31 ⟨v_29, _, _, _, _, rfl, (Sv.mono _ x31 h30)⟩ rfl
    · rintro rr σ' B105 H105 x105 w105 ⟨o_5k106, o_6k106, o_7k106, o_8k106, o_9k106, o_10k106, rfl, hj0k106⟩ hm
      try dsimp only
      replace hm := finK_nx hm
      obtain ⟨state17, left18, parts19⟩ := rr
      refine s_ret w105 (ev_var (S := SA q10) rfl rfl) (fun vv B107 H107 x107 w107 hv => ?_)
      cases (show vv = _ from hv)
      cases hm
      obtain ⟨Bz, xz, w108, rz⟩ := r_o w107 n11 (imm_T2 (imm_tpl (imm_flat _)) (imm_flat _))
      obtain ⟨oz, gz1, _, gz3, gz4⟩ := w108.cell.get (i := 0) rfl rfl
      exact k _ _ _ oz w108.st w108.ex gz1 gz3 gz4 rz
def m__law_bent_parts : (List Int) × (List ((List Int) × Int)) × Int → Option ((List ((List Int) × Int)) × (List Int)) := fun (state, parts, size) =>
  cond (decide ((parts.length : Int) = (0 : Int))) (some ([([], (0 : Int))], state)) ((m__law_draw (state, (parts.length : Int))).bind fun (r6, state8) =>
  (atI parts r6).bind fun t12 =>
  (atI parts r6).bind fun t17 =>
  (m__law_draw (state8, (8 : Int))).bind fun (r22, state24) =>
  (cond (decide (r22 < (2 : Int))) (some (state24, parts, t12.1, (t17.2 + (1 : Int)))) (cond (decide (r22 = (2 : Int))) (some (state24, parts, t12.1, (-(1 : Int)))) (cond (decide (r22 = (3 : Int))) ((m__law_draw (state24, size)).bind fun (r41, state43) =>
  (m__law_draw (state43, (3 : Int))).bind fun (r44, state46) =>
  (atI [size, (-(1 : Int)), r41] r44).bind fun t47 =>
  (catO t12.1 [t47]).bind fun t51 =>
  some (state46, parts, (isort t51), t17.2)) (cond (decide (r22 = (4 : Int))) ((m__law_draw (state24, (t12.1.length : Int))).bind fun (r60, state62) =>
  (popAtO t12.1 r60).bind fun (r57, places58) =>
  some (state62, parts, places58, t17.2)) (cond (decide (r22 = (5 : Int))) (some (state24, parts, t12.1.reverse, t17.2)) (cond (decide (r22 = (6 : Int))) ((m__law_draw (state24, (parts.length : Int))).bind fun (r70, state72) =>
  (atI parts r70).bind fun t73 =>
  (appO parts t73).bind fun bent75 =>
  some (state72, bent75, t12.1, t17.2)) ((catO t12.1 (cut t12.1 (some (-(1 : Int))) none)).bind fun t80 =>
  some (state24, parts, t80, t17.2)))))))).bind fun (state29, bent30, places31, price32) =>
  (setO bent30 r6 (places31, price32)).bind fun bent87 =>
  some (bent87, state29))
def p__law_bent_parts (K : Fg) : Sp := Pr1 K (fun (g : (List Int) × (List ((List Int) × Int)) × Int) p => [SA p, (rLst (rT2 (rTpl rInt) rInt)).s K g.2.1, rInt.s K g.2.2]) (fun g => CL rInt K g.1) m__law_bent_parts (fun e => CL rInt K e) (rLst (rT2 (rTpl rInt) rInt))
abbrev N__law_bent_parts : List Str := ["state", "parts", "size", "bent", "at", "places", "price", "kind"]
theorem sc__law_bent_parts : FnScope N__law_bent_parts ["state", "parts", "size"] (defScope s__law_bent_parts) := ⟨rfl, rfl, rfl, by decide +kernel, rfl, by decide +kernel, by decide +kernel⟩
theorem ok__law_bent_parts {P : Program} {w : World} {K : Fg} {mg : Str → Option Value} {base : Heap} (T : Tx P K mg) {fd : FuncData} (F : FnP K "_law_bent_parts" s__law_bent_parts (He.ga K "_law_bent_parts") fd) : FnOk P w K mg base (L2.CX P w) 2 (He.ga K "_law_bent_parts") fd ["state", "parts", "size"] (p__law_bent_parts K) := by
  obtain ⟨fd__law_draw, F__law_draw⟩ := T.f__law_draw
  have G__law_draw : FnOk P w K mg base (L2.CX P w) 1 (He.ga K "_law_draw") fd__law_draw ["state", "many"] (p__law_draw K) := ok__law_draw T F__law_draw
  have b__law_draw : Binds K fd__law_draw ["state", "many"] [] := F__law_draw.bindsN fun _ _ _ _ _ _ us hl => match us, hl with | [_, _], _ => rfl
  have sc := sc__law_bent_parts
  refine F.ok sc (fun vs H Q E h => ?_) (fun cdv A outer s H vs Q E hr h => ?_)
  · obtain ⟨g, p, z, B, o, ss, _⟩ := h
    exact (Paired.length ss).trans rfl
  · obtain ⟨⟨state, parts, size⟩, p0, z, B, o, ss, ex, h1, h2, h3, h4, hm, k⟩ := h
    obtain ⟨v0, v1, v2, rfl, z0, z1, z2⟩ := pn3 ss
    cases (show _ = V.ref p0 from z0)
    refine ⟨_, (pss_cons (ps_set (i := 3) sc.nd rfl (Or.inl rfl) (pe_callTy (clst (K := K) rfl) (by rfl) T.b_list (by decide +kernel) (pa_cons (pv 1) pa_nil))) (pss_cons (ps_if (pt_cmpR op_eq (pe_callB (clen (K := K) rfl) (by rfl) T.b_len (by decide +kernel) (pa_cons (pv 3) pa_nil)) pe_int (nomark _)) (pss_one (ps_ret (pe_lst (pa_cons (pe_tup (pa_cons (pe_tup pa_nil) (pa_cons pe_int pa_nil))) pa_nil)))) pss_nil) (pss_cons (ps_set (i := 4) sc.nd rfl (Or.inl rfl) (pe_call G__law_draw (hr.mono (by decide)) (by rfl) T.m__law_draw F__law_draw.kp b__law_draw .nil passL (pa_cons (pv 0) (pa_cons (pe_callB (clen (K := K) rfl) (by rfl) T.b_len (by decide +kernel) (pa_cons (pv 3) pa_nil)) pa_nil)))) (pss_cons (ps_set (i := 5) sc.nd rfl (Or.inl rfl) (pe_callTy (clst (K := K) rfl) (by rfl) T.b_list (by decide +kernel) (pa_cons (pe_ix (ixt (K := K) rfl) (pe_ix (ixl (K := K) rfl) (pv 3) (pv 4) (fun _ _ => rfl)) pe_int (fun _ _ => rfl)) pa_nil))) (pss_cons (ps_set (i := 6) sc.nd rfl (Or.inl rfl) (pe_ix (ixt (K := K) rfl) (pe_ix (ixl (K := K) rfl) (pv 3) (pv 4) (fun _ _ => rfl)) pe_int (fun _ _ => rfl))) (pss_cons (ps_set (i := 7) sc.nd rfl (Or.inl rfl) (pe_call G__law_draw (hr.mono (by decide)) (by rfl) T.m__law_draw F__law_draw.kp b__law_draw .nil passL (pa_cons (pv 0) (pa_cons pe_int pa_nil)))) (pss_cons (ps_if (pt_cmpR op_lt (pv 7) pe_int (nomark _)) (pss_one (ps_set (i := 6) sc.nd rfl (Or.inl rfl) (pe_op op_add (pv 6) pe_int))) (pss_one (ps_if (pt_cmpR op_eq (pv 7) pe_int (nomark _)) (pss_one (ps_set (i := 6) sc.nd rfl (Or.inl rfl) (pe_un un_neg pe_int))) (pss_one (ps_if (pt_cmpR op_eq (pv 7) pe_int (nomark _)) (pss_one (ps_set (i := 5) sc.nd rfl (Or.inl rfl) (pe_callB (csrt (K := K) rfl) (by rfl) T.b_sorted (by decide +kernel) (pa_cons (pe_op op_cat (pv 5) (pe_lst (pa_cons (pe_ix (ixl (K := K) rfl) (pe_lst (pa_cons (pv 2) (pa_cons (pe_un un_neg pe_int) (pa_cons (pe_call G__law_draw (hr.mono (by decide)) (by rfl) T.m__law_draw F__law_draw.kp b__law_draw .nil passL (pa_cons (pv 0) (pa_cons (pv 2) pa_nil))) pa_nil)))) (pe_call G__law_draw (hr.mono (by decide)) (by rfl) T.m__law_draw F__law_draw.kp b__law_draw .nil passL (pa_cons (pv 0) (pa_cons pe_int pa_nil))) (fun _ _ => rfl)) pa_nil))) pa_nil)))) (pss_one (ps_if (pt_cmpR op_eq (pv 7) pe_int (nomark _)) (pss_one (ps_expr (pe_bm PySem.F.plainAttrs_list PySem.F.slot_list_pop PySem.F.type_list_pop mt_popAt (pv 5) (pa_cons (pe_call G__law_draw (hr.mono (by decide)) (by rfl) T.m__law_draw F__law_draw.kp b__law_draw .nil passL (pa_cons (pv 0) (pa_cons (pe_callB (clen (K := K) rfl) (by rfl) T.b_len (by decide +kernel) (pa_cons (pv 5) pa_nil)) pa_nil))) pa_nil)))) (pss_one (ps_if (pt_cmpR op_eq (pv 7) pe_int (nomark _)) (pss_one (ps_set (i := 5) sc.nd rfl (Or.inl rfl) (pe_revL (pv 5)))) (pss_one (ps_if (pt_cmpR op_eq (pv 7) pe_int (nomark _)) (pss_one (ps_expr (pe_bm PySem.F.plainAttrs_list PySem.F.slot_list_append PySem.F.type_list_append mt_append (pv 3) (pa_cons (pe_ix (ixl (K := K) rfl) (pv 3) (pe_call G__law_draw (hr.mono (by decide)) (by rfl) T.m__law_draw F__law_draw.kp b__law_draw .nil passL (pa_cons (pv 0) (pa_cons (pe_callB (clen (K := K) rfl) (by rfl) T.b_len (by decide +kernel) (pa_cons (pv 3) pa_nil)) pa_nil))) (fun _ _ => rfl)) pa_nil)))) (pss_one (ps_set (i := 5) sc.nd rfl (Or.inl rfl) (pe_op op_cat (pv 5) (pe_slice (sll (K := K) rfl) (pv 5) (po_some (pe_un un_neg pe_int)) po_none))))))))))))))) (pss_cons (ps_asg (pe_tup (pa_cons (pe_callTy (ctup (K := K) rfl) (by rfl) T.b_tuple (by decide +kernel) (pa_cons (pv 5) pa_nil)) (pa_cons (pv 6) pa_nil))) (pg_sub (pv 3) (pv 4) set_list)) (pss_one (ps_ret (pv 3))))))))))), ?_⟩
    have w := Wd.start1 (K := K) ex h1 h2 h3 h4
    unfold m__law_bent_parts at hm
    refine s_own w (ev_list (ev_var (S := (rLst (rT2 (rTpl rInt) rInt)).s K parts) rfl z1) src_p) (imm_T2 (imm_tpl (imm_flat _)) (imm_flat _)) ⟨csi (imm_flat _), trivial⟩ (fun q2 B1 H1 x1 n3 w1 => ?_)
    try dsimp only
    refine s_if w1 (et_test (ev_eqI (ev_len (ev_var (S := SA q2) rfl rfl) (src_o (R := (rT2 (rTpl rInt) rInt)) (xs := parts) 0 rfl rfl)) ev_int)) (fun hb B4 H4 x4 w4 => ?_) (fun hb B4 H4 x4 w4 => ?_)
    · have hm := it hb hm
      refine s_ret w4 (ev_lst (R := (rT2 (rTpl rInt) rInt)) (xs := [([], (0 : Int))]) (ea_cons (ev_T2 (ea_cons (ev_tpl (R := rInt) (xs := []) ea_nil (by show 0 ≤ 1000; decide)) (ea_cons ev_int ea_nil))) ea_nil) (by show 1 ≤ 1000; decide)) (fun vv B5 H5 x5 w5 hv => ?_)
      cases hm
      obtain ⟨oz, gz1, _, gz3, gz4⟩ := w5.cell.get (i := 1) rfl rfl
      exact k _ _ _ oz w5.st w5.ex gz1 gz3 gz4 (r_n w4 (imm_T2 (imm_tpl (imm_flat _)) (imm_flat _)) hv)
    · have hm := ie hb hm
      obtain ⟨⟨r6, state8⟩, e7, hm⟩ := ob hm
      try dsimp only at hm
      refine s_asg w4 ((ev_call1 (g := (state, (parts.length : Int))) 1 rfl (ea_cons (ev_var (S := SA p0) rfl rfl) (ea_cons (ev_len (ev_var (S := SA q2) rfl rfl) (src_o (R := (rT2 (rTpl rInt) rInt)) (xs := parts) 0 rfl rfl)) ea_nil)) rfl (al_p (fun a z => List.mem_of_mem_eraseIdx z) (al_p (fun a z => List.mem_of_mem_eraseIdx z) al_nil)) e7 (csi (imm_flat _))).le g_s) (fun v_10 B9 H9 x9 w9 h11 => ?_)
      obtain ⟨t12, e13, hm⟩ := ob hm
      refine s_own w9 (ev_listT (ev_T2a (ev_ix (ev_var (S := SA q2) rfl rfl) (ev_var (S := rInt.s K r6) rfl h11) (src_o (R := (rT2 (rTpl rInt) rInt)) (xs := parts) 0 rfl rfl) e13))) (imm_flat _) ⟨csi (imm_T2 (imm_tpl (imm_flat _)) (imm_flat _)), ⟨csi (imm_flat _), trivial⟩⟩ (fun q15 B14 H14 x14 n16 w14 => ?_)
      obtain ⟨t17, e18, hm⟩ := ob hm
      refine s_asg w14 (ev_T2b (ev_ix (ev_var (S := SA q2) rfl rfl) (ev_var (S := rInt.s K r6) rfl (Sv.mono _ x14 h11)) (src_o (R := (rT2 (rTpl rInt) rInt)) (xs := parts) 1 rfl rfl) e18)) (fun v_20 B19 H19 x19 w19 h21 => ?_)
      obtain ⟨⟨r22, state24⟩, e23, hm⟩ := ob hm
      try dsimp only at hm
      refine s_asg w19 ((ev_call1 (g := (state8, (8 : Int))) 2 rfl (ea_cons (ev_var (S := SA p0) rfl rfl) (ea_cons ev_int ea_nil)) rfl (al_p (fun a z => List.mem_of_mem_eraseIdx z) (al_p (fun a z => List.mem_of_mem_eraseIdx z) al_nil)) e23 (csi (imm_flat _))).le g_s) (fun v_26 B25 H25 x25 w25 h27 => ?_)
      obtain ⟨rj, hA93, hm⟩ := ob hm
      refine s_ifJ2 (ks2 := (fun (rr : ((List Int) × (List ((List Int) × Int)) × (List Int) × Int) × Addr) => [rr.2, q2, p0])) (oo := (fun (rr : ((List Int) × (List ((List Int) × Int)) × (List Int) × Int) × Addr) => [CL rInt K rr.1.2.2.1, CL (rT2 (rTpl rInt) rInt) K rr.1.2.1, CL rInt K rr.1.1])) (fun (rr : ((List Int) × (List ((List Int) × Int)) × (List Int) × Int) × Addr) σ' B' => ∃ v_6 : V, σ' = [some (.ref p0), some v1, some v2, some (.ref q2), some v_10, some (.ref rr.2), some v_6, some v_26] ∧ (rInt.s K rr.1.2.2.2).p v_6 B' ∧ H rr.2 = none) (fun rr => rr.1 = rj) w25 (et_test (ev_lt (ev_var (S := rInt.s K r22) rfl h27) ev_int)) ?_ (fun hb B28 H28 x28 w28 N hN => ?_) (fun hb B28 H28 x28 w28 N hN => ?_)
      · rintro ⟨⟨state29, bent30, places31, price32⟩, qmk86⟩ σ' B85 H85 x85 w85 ⟨v_6k86, rfl, hj0k86, hj1k86⟩ hq
        replace hq : (state29, bent30, places31, price32) = rj := hq
        subst hq
        try dsimp only
        obtain ⟨bent87, e88, hm⟩ := ob hm
        refine s_set 1 rfl w85 (ev_T2 (ea_cons (ev_tuple (ev_var (S := SA qmk86) rfl rfl) (src_o (R := rInt) (xs := places31) 0 rfl rfl)) (ea_cons (ev_var (S := rInt.s K price32) rfl hj0k86) ea_nil))) (ev_var (S := SA q2) rfl rfl) (ev_var (S := rInt.s K r6) rfl (Sv.mono _ x85 (Sv.mono _ x25 (Sv.mono _ x19 (Sv.mono _ x14 h11))))) rfl e88 (fun B89 H89 x89 w89 => ?_)
        refine s_ret w89 (ev_var (S := SA q2) rfl rfl) (fun vv B90 H90 x90 w90 hv => ?_)
        cases (show vv = _ from hv)
        cases hm
        have w91 := Wd.drop w90
        obtain ⟨Bz, xz, w92, rz⟩ := r_o w91 n3 (imm_T2 (imm_tpl (imm_flat _)) (imm_flat _))
        obtain ⟨oz, gz1, _, gz3, gz4⟩ := w92.cell.get (i := 0) rfl rfl
        exact k _ _ _ oz w92.st w92.ex gz1 gz3 gz4 rz
      · have hm := it hb hA93
        refine s_asg w28 (ev_add (ev_var (S := rInt.s K t17.2) rfl (Sv.mono _ x28 (Sv.mono _ x25 h21))) ev_int) (fun v_34 B33 H33 x33 w33 h35 => ?_)
        have hq_ := Option.some.inj hm
        subst hq_
        exact hN ((state24, parts, t12.1, (t17.2 + (1 : Int))), q15) _ _ _ (x28.trans x33) w33 ⟨v_34, rfl, h35, n16⟩ rfl
      · have hm := ie hb hA93
        try dsimp only
        refine s_if w28 (et_test (ev_eqI (ev_var (S := rInt.s K r22) rfl (Sv.mono _ x28 h27)) ev_int)) (fun hb B36 H36 x36 w36 => ?_) (fun hb B36 H36 x36 w36 => ?_)
        · have hm := it hb hm
          refine s_asg w36 (ev_neg ev_int) (fun v_38 B37 H37 x37 w37 h39 => ?_)
          have hq_ := Option.some.inj hm
          subst hq_
          exact hN ((state24, parts, t12.1, (-(1 : Int))), q15) _ _ _ ((x28.trans x36).trans x37) w37 ⟨v_38, rfl, h39, n16⟩ rfl
        · have hm := ie hb hm
          try dsimp only
          refine s_if w36 (et_test (ev_eqI (ev_var (S := rInt.s K r22) rfl (Sv.mono _ x36 (Sv.mono _ x28 h27))) ev_int)) (fun hb B40 H40 x40 w40 => ?_) (fun hb B40 H40 x40 w40 => ?_)
          · have hm := it hb hm
            obtain ⟨⟨r41, state43⟩, e42, hm⟩ := ob hm
            try dsimp only at hm
            obtain ⟨⟨r44, state46⟩, e45, hm⟩ := ob hm
            try dsimp only at hm
            obtain ⟨t47, e48, hm⟩ := ob hm
            obtain ⟨t51, e49, hm⟩ := ob hm
            refine s_own w40 (ev_sortI (ev_catO (ev_var (S := SA q15) rfl rfl) (ev_lst (R := rInt) (xs := [t47]) (ea_cons (ev_ix (ev_lst (R := rInt) (xs := [size, (-(1 : Int)), r41]) (ea_cons (ev_var (S := rInt.s K size) rfl (Sv.mono _ x40 (Sv.mono _ x36 (Sv.mono _ x28 (Sv.mono _ x25 (Sv.mono _ x19 (Sv.mono _ x14 (Sv.mono _ x9 (Sv.mono _ x4 (Sv.mono _ x1 z2)))))))))) (ea_cons (ev_neg ev_int) (ea_cons ((ev_call1 (g := (state24, size)) 2 rfl (ea_cons (ev_var (S := SA p0) rfl rfl) (ea_cons (ev_var (S := rInt.s K size) rfl (Sv.mono _ x40 (Sv.mono _ x36 (Sv.mono _ x28 (Sv.mono _ x25 (Sv.mono _ x19 (Sv.mono _ x14 (Sv.mono _ x9 (Sv.mono _ x4 (Sv.mono _ x1 z2)))))))))) ea_nil)) rfl (al_p (fun a z => List.mem_of_mem_eraseIdx z) (al_p (fun a z => List.mem_of_mem_eraseIdx z) al_nil)) e42 (csi (imm_flat _))).le g_s) ea_nil))) (by show 3 ≤ 1000; decide)) ((ev_call1 (g := (state43, (3 : Int))) 2 rfl (ea_cons (ev_var (S := SA p0) rfl rfl) (ea_cons ev_int ea_nil)) rfl (al_p (fun a z => List.mem_of_mem_eraseIdx z) (al_p (fun a z => List.mem_of_mem_eraseIdx z) al_nil)) e45 (csi (imm_flat _))).le g_s) src_n e48) ea_nil) (by show 1 ≤ 1000; decide)) (src_o (R := rInt) (xs := t12.1) 0 rfl rfl) src_n e49) src_n) (imm_flat _) ⟨csi (imm_flat _), ⟨csi (imm_T2 (imm_tpl (imm_flat _)) (imm_flat _)), ⟨csi (imm_flat _), trivial⟩⟩⟩ (fun q53 B52 H52 x52 n54 w52 => ?_)
            have w55 := Wd.rm w52 1
            have hq_ := Option.some.inj hm
            subst hq_
            exact hN ((state46, parts, (isort t51), t17.2), q53) _ _ _ (((x28.trans x36).trans x40).trans x52) w55 ⟨v_20, rfl, (Sv.mono _ x52 (Sv.mono _ x40 (Sv.mono _ x36 (Sv.mono _ x28 (Sv.mono _ x25 h21))))), n54⟩ rfl
          · have hm := ie hb hm
            try dsimp only
            refine s_if w40 (et_test (ev_eqI (ev_var (S := rInt.s K r22) rfl (Sv.mono _ x40 (Sv.mono _ x36 (Sv.mono _ x28 h27)))) ev_int)) (fun hb B56 H56 x56 w56 => ?_) (fun hb B56 H56 x56 w56 => ?_)
            · have hm := it hb hm
              obtain ⟨⟨r60, state62⟩, e61, hm⟩ := ob hm
              try dsimp only at hm
              obtain ⟨⟨r57, places58⟩, e59, hm⟩ := ob hm
              try dsimp only at hm
              refine s_drop w56 (ev_popAt 0 rfl (ev_var (S := SA q15) rfl rfl) rfl ((ev_call1 (g := (state24, (t12.1.length : Int))) 2 rfl (ea_cons (ev_var (S := SA p0) rfl rfl) (ea_cons (ev_len (ev_var (S := SA q15) rfl rfl) (src_o (R := rInt) (xs := t12.1) 0 rfl rfl)) ea_nil)) rfl (al_p (fun a z => List.mem_of_mem_eraseIdx z) (al_p (fun a z => List.mem_of_mem_eraseIdx z) al_nil)) e61 (csi (imm_flat _))).le g_s) rfl e59) (fun B63 H63 x63 w63 => ?_)
              have hq_ := Option.some.inj hm
              subst hq_
              exact hN ((state62, parts, places58, t17.2), q15) _ _ _ ((((x28.trans x36).trans x40).trans x56).trans x63) w63 ⟨v_20, rfl, (Sv.mono _ x63 (Sv.mono _ x56 (Sv.mono _ x40 (Sv.mono _ x36 (Sv.mono _ x28 (Sv.mono _ x25 h21)))))), n16⟩ rfl
            · have hm := ie hb hm
              try dsimp only
              refine s_if w56 (et_test (ev_eqI (ev_var (S := rInt.s K r22) rfl (Sv.mono _ x56 (Sv.mono _ x40 (Sv.mono _ x36 (Sv.mono _ x28 h27))))) ev_int)) (fun hb B64 H64 x64 w64 => ?_) (fun hb B64 H64 x64 w64 => ?_)
              · have hm := it hb hm
                refine s_own w64 (ev_rev (ev_var (S := SA q15) rfl rfl) (src_o (R := rInt) (xs := t12.1) 0 rfl rfl)) (imm_flat _) ⟨csi (imm_flat _), ⟨csi (imm_T2 (imm_tpl (imm_flat _)) (imm_flat _)), ⟨csi (imm_flat _), trivial⟩⟩⟩ (fun q66 B65 H65 x65 n67 w65 => ?_)
                have w68 := Wd.rm w65 1
                have hq_ := Option.some.inj hm
                subst hq_
                exact hN ((state24, parts, t12.1.reverse, t17.2), q66) _ _ _ (((((x28.trans x36).trans x40).trans x56).trans x64).trans x65) w68 ⟨v_20, rfl, (Sv.mono _ x65 (Sv.mono _ x64 (Sv.mono _ x56 (Sv.mono _ x40 (Sv.mono _ x36 (Sv.mono _ x28 (Sv.mono _ x25 h21))))))), n67⟩ rfl
              · have hm := ie hb hm
                try dsimp only
                refine s_if w64 (et_test (ev_eqI (ev_var (S := rInt.s K r22) rfl (Sv.mono _ x64 (Sv.mono _ x56 (Sv.mono _ x40 (Sv.mono _ x36 (Sv.mono _ x28 h27)))))) ev_int)) (fun hb B69 H69 x69 w69 => ?_) (fun hb B69 H69 x69 w69 => ?_)
                · have hm := it hb hm
                  obtain ⟨⟨r70, state72⟩, e71, hm⟩ := ob hm
                  try dsimp only at hm
                  obtain ⟨t73, e74, hm⟩ := ob hm
                  obtain ⟨bent75, e76, hm⟩ := ob hm
                  refine s_drop w69 (ev_app 1 rfl (ev_var (S := SA q2) rfl rfl) rfl (ev_ix (ev_var (S := SA q2) rfl rfl) ((ev_call1 (g := (state24, (parts.length : Int))) 2 rfl (ea_cons (ev_var (S := SA p0) rfl rfl) (ea_cons (ev_len (ev_var (S := SA q2) rfl rfl) (src_o (R := (rT2 (rTpl rInt) rInt)) (xs := parts) 1 rfl rfl)) ea_nil)) rfl (al_p (fun a z => List.mem_of_mem_eraseIdx z) (al_p (fun a z => List.mem_of_mem_eraseIdx z) al_nil)) e71 (csi (imm_flat _))).le g_s) (src_o (R := (rT2 (rTpl rInt) rInt)) (xs := parts) 1 rfl rfl) e74) rfl e76) (fun B77 H77 x77 w77 => ?_)
                  have hq_ := Option.some.inj hm
                  subst hq_
                  exact hN ((state72, bent75, t12.1, t17.2), q15) _ _ _ ((((((x28.trans x36).trans x40).trans x56).trans x64).trans x69).trans x77) w77 ⟨v_20, rfl, (Sv.mono _ x77 (Sv.mono _ x69 (Sv.mono _ x64 (Sv.mono _ x56 (Sv.mono _ x40 (Sv.mono _ x36 (Sv.mono _ x28 (Sv.mono _ x25 h21)))))))), n16⟩ rfl
                · have hm := ie hb hm
                  obtain ⟨t80, e78, hm⟩ := ob hm
                  refine s_own w69 (ev_catO (ev_var (S := SA q15) rfl rfl) (ev_cut (ev_var (S := SA q15) rfl rfl) (eo_some (ev_neg ev_int)) eo_none (src_o (R := rInt) (xs := t12.1) 0 rfl rfl)) (src_o (R := rInt) (xs := t12.1) 0 rfl rfl) src_n e78) (imm_flat _) ⟨csi (imm_flat _), ⟨csi (imm_T2 (imm_tpl (imm_flat _)) (imm_flat _)), ⟨csi (imm_flat _), trivial⟩⟩⟩ (fun q82 B81 H81 x81 n83 w81 => ?_)
                  have w84 := Wd.rm w81 1
                  have hq_ := Option.some.inj hm
                  subst hq_
                  exact hN ((state24, parts, t80, t17.2), q82) _ _ _ ((((((x28.trans x36).trans x40).trans x56).trans x64).trans x69).trans x81) w84 ⟨v_20, rfl, (Sv.mono _ x81 (Sv.mono _ x69 (Sv.mono _ x64 (Sv.mono _ x56 (Sv.mono _ x40 (Sv.mono _ x36 (Sv.mono _ x28 (Sv.mono _ x25 h21)))))))), n83⟩ rfl
def m__law_holds : (List (List Int)) × (List Int) × (List ((List Int) × Int)) → Option (Bool) := fun (table, shut, parts) =>
  finK (fun (_ : Unit) => (finK (fun (_ : Unit) => (some true)) (fun (tt : Bool) => some tt) (forL (fun (place29 : Int) (_ : Unit) => ((rngO (0 : Int) ((table.length : Int) + (1 : Int))).bind fun xs30 =>
  finK (fun (_ : Unit) => (some (.nx ()))) (fun (tt : Bool) => some (.rt tt)) (forL (fun (x_end33 : Int) (_ : Unit) => (cond (!decide (x_end33 = place29)) ((lcO (fun (x_part : (List Int) × Int) (rr : Unit) => match rr with | () => some (((decide (place29 ∈ x_part.1)) && (!decide (x_end33 ∈ x_part.1))), ())) (fun (x_part : (List Int) × Int) (rr : Unit) => match rr with | () => some (x_part.2, ())) parts ()).bind fun (ys35, _) =>
  (atI table place29).bind fun t40 =>
  (atI t40 x_end33).bind fun t42 =>
  cond (decide (t42 < ys35.sum)) (some (.rt false)) (some (.nx ()))) (some (.nx ())) : Option (Ctl Unit Bool))) xs30 ()) : Option (Ctl Unit Bool))) shut ()))) (fun (tt : Bool) => some tt) (forL (fun (x_part2 : (List Int) × Int) (_ : Unit) => (cond ((decide ((x_part2.1.length : Int) = (0 : Int))) || (decide (x_part2.2 < (0 : Int)))) (some (.rt false)) ((rngO (0 : Int) (x_part2.1.length : Int)).bind fun xs8 =>
  finK (fun (_ : Unit) => (some (.nx ()))) (fun (tt : Bool) => some (.rt tt)) (forL (fun (x_k11 : Int) (_ : Unit) => ((atI x_part2.1 x_k11).bind fun t12 =>
  (cond (!decide (t12 ∈ shut)) (some true) ((cond (decide ((0 : Int) < x_k11)) ((atI x_part2.1 (x_k11 - (1 : Int))).bind fun t14 => (atI x_part2.1 x_k11).bind fun t16 => some (decide (t16 ≤ t14))) (some false)).bind fun b18 => some b18)).bind fun b20 =>
  cond b20 (some (.rt false)) (some (.nx ())) : Option (Ctl Unit Bool))) xs8 ())) : Option (Ctl Unit Bool))) parts ())
def p__law_holds (K : Fg) : Sp := Pr0 K (fun (g : (List (List Int)) × (List Int) × (List ((List Int) × Int))) => [(rLst (rLst rInt)).s K g.1, (rLst rInt).s K g.2.1, (rLst (rT2 (rTpl rInt) rInt)).s K g.2.2]) m__law_holds rBool
abbrev N__law_holds : List Str := ["table", "shut", "parts", "part", "places", "k", "place", "end", "charged_v"]
theorem sc__law_holds : FnScope N__law_holds ["table", "shut", "parts"] (defScope s__law_holds) := ⟨rfl, rfl, rfl, by decide +kernel, rfl, by decide +kernel, by decide +kernel⟩
theorem ok__law_holds {P : Program} {w : World} {K : Fg} {mg : Str → Option Value} {base : Heap} (T : Tx P K mg) {fd : FuncData} (F : FnP K "_law_holds" s__law_holds (He.ga K "_law_holds") fd) : FnOk P w K mg base (L2.CX P w) 1 (He.ga K "_law_holds") fd ["table", "shut", "parts"] (p__law_holds K) := by
  have sc := sc__law_holds
  refine F.ok sc (fun vs H Q E h => ?_) (fun cdv A outer s H vs Q E hr h => ?_)
  · obtain ⟨g, z, B, ss, _⟩ := h
    exact (Paired.length ss).trans rfl
  · obtain ⟨⟨table, shut, parts⟩, z, B, ss, ex, hm, k⟩ := h
    obtain ⟨v0, v1, v2, rfl, z0, z1, z2⟩ := pn3 ss
    refine ⟨_, (pss_cons (ps_for (passes_of rfl) rfl (pi_list (pv 2)) (pg_name (i := 3) sc.nd rfl (Or.inl rfl)) (pss_cons (ps_set (i := 4) sc.nd rfl (Or.inl rfl) (pe_ix (ixt (K := K) rfl) (pv 3) pe_int (fun _ _ => rfl))) (pss_cons (ps_if (PW.pt (pw_or (pt_cmpR op_eq (pe_callB (clen (K := K) rfl) (by rfl) T.b_len (by decide +kernel) (pa_cons (pv 4) pa_nil)) pe_int (nomark _)) (pw_or1 (pt_cmpR op_lt (pe_ix (ixt (K := K) rfl) (pv 3) pe_int (fun _ _ => rfl)) pe_int (nomark _))))) (pss_one (ps_ret pe_bl)) pss_nil) (pss_one (ps_for (passes_of rfl) rfl (pi_range1 (by rfl) T.b_range (pa_cons (pe_callB (clen (K := K) rfl) (by rfl) T.b_len (by decide +kernel) (pa_cons (pv 4) pa_nil)) pa_nil)) (pg_name (i := 5) sc.nd rfl (Or.inl rfl)) (pss_one (ps_if (PW.pt (pw_or (pt_cmpR (opnin (K := K) rfl) (pe_ix (ixt (K := K) rfl) (pv 4) (pv 5) (fun _ _ => rfl)) (pv 1) (by rfl)) (pw_or1 (PW.pt (pw_and (pt_cmpR op_gt (pv 5) pe_int (nomark _)) (pw_and1 (pt_cmpR op_ge (pe_ix (ixt (K := K) rfl) (pv 4) (pe_op op_sub (pv 5) pe_int) (fun _ _ => rfl)) (pe_ix (ixt (K := K) rfl) (pv 4) (pv 5) (fun _ _ => rfl)) (nomark _)))))))) (pss_one (ps_ret pe_bl)) pss_nil))))))) (pss_cons (ps_for (passes_of rfl) rfl (pi_list (pv 1)) (pg_name (i := 6) sc.nd rfl (Or.inr rfl)) (pss_one (ps_for (passes_of rfl) rfl (pi_range1 (by rfl) T.b_range (pa_cons (pe_op op_add (pe_callB (clen (K := K) rfl) (by rfl) T.b_len (by decide +kernel) (pa_cons (pv 0) pa_nil)) pe_int) pa_nil)) (pg_name (i := 7) sc.nd rfl (Or.inr rfl)) (pss_one (ps_if (pt_cmpR op_ne (pv 7) (pv 6) (nomark _)) (pss_cons (ps_set (i := 8) sc.nd rfl (Or.inl rfl) (pe_callB (csum (K := K) rfl rfl) (by rfl) T.b_sum (by decide +kernel) (pa_cons (pe_lc (own := [("part", 3)]) (g := (gName 3)) (by rfl) sc.nd (pi_list (pv 2)) (blkOk_by (own := [("part", 3)]) (N := N__law_holds) (sc := defScope s__law_holds) (by decide +kernel)) (fun _ _ _ _ _ => pg_name (i := 3) sc.nd rfl (Or.inl rfl)) (fun _ _ _ _ _ => pts_one (PW.pt (pw_and (pt_cmpR (opin (K := K) rfl) (pv 6) (pe_ix (ixt (K := K) rfl) (pv 3) pe_int (fun _ _ => rfl)) (by rfl)) (pw_and1 (pt_cmpR (opnin (K := K) rfl) (pv 7) (pe_ix (ixt (K := K) rfl) (pv 3) pe_int (fun _ _ => rfl)) (by rfl)))))) (fun _ _ _ _ _ => (pe_ix (ixt (K := K) rfl) (pv 3) pe_int (fun _ _ => rfl)))) pa_nil))) (pss_one (ps_if (pt_cmpR op_gt (pv 8) (pe_ix (ixl (K := K) rfl) (pe_ix (ixl (K := K) rfl) (pv 0) (pv 6) (fun _ _ => rfl)) (pv 7) (fun _ _ => rfl)) (nomark _)) (pss_one (ps_ret pe_bl)) pss_nil))) pss_nil))))) (pss_one (ps_ret pe_bl)))), ?_⟩
    have w := Wd.start (K := K) ex
    unfold m__law_holds at hm
    refine s_for (R := (rT2 (rTpl rInt) rInt)) (oo := (fun (rr : Unit) => [])) (ρ0 := ()) (fun (x_part2 : (List Int) × Int) (_ : Unit) => (cond ((decide ((x_part2.1.length : Int) = (0 : Int))) || (decide (x_part2.2 < (0 : Int)))) (some (.rt false)) ((rngO (0 : Int) (x_part2.1.length : Int)).bind fun xs8 =>
finK (fun (_ : Unit) => (some (.nx ()))) (fun (tt : Bool) => some (.rt tt)) (forL (fun (x_k11 : Int) (_ : Unit) => ((atI x_part2.1 x_k11).bind fun t12 =>
(cond (!decide (t12 ∈ shut)) (some true) ((cond (decide ((0 : Int) < x_k11)) ((atI x_part2.1 (x_k11 - (1 : Int))).bind fun t14 => (atI x_part2.1 x_k11).bind fun t16 => some (decide (t16 ≤ t14))) (some false)).bind fun b18 => some b18)).bind fun b20 =>
cond b20 (some (.rt false)) (some (.nx ())) : Option (Ctl Unit Bool))) xs8 ())) : Option (Ctl Unit Bool))) (fun (_ : Unit) σ' B' => ∃ o_3 : Option V, ∃ o_4 : Option V, ∃ o_5 : Option V, ∃ o_6 : Option V, ∃ o_7 : Option V, ∃ o_8 : Option V, σ' = [some v0, some v1, some v2, o_3, o_4, o_5, o_6, o_7, o_8]) (fun zz => finK _ _ zz = some _) w (ei_list (ev_var (S := (rLst (rT2 (rTpl rInt) rInt)).s K parts) rfl z2)) (fun rr σ' B1 B2 e ⟨o_3, o_4, o_5, o_6, o_7, o_8, hσ⟩ => ⟨o_3, o_4, o_5, o_6, o_7, o_8, hσ⟩) (fun B2 e => ⟨_, _, _, _, _, _, rfl⟩) hm ?_ ?_
    · rintro x_part2 rst rr vx1 σ' Bt1 Ht1 xt1 wt1 ⟨o_3t1, o_4t1, o_5t1, o_6t1, o_7t1, o_8t1, rfl⟩ hx1 hf N hN dn
      dsimp only [gName]
      obtain ⟨ctl, hfx, hbk1, hrt1⟩ := forL_step hf
      have hm := hfx
      refine s_asg wt1 (ev_T2a (ev_var (S := (rT2 (rTpl rInt) rInt).s K x_part2) rfl hx1)) (fun v_4 B3 H3 x3 w3 h5 => ?_)
      try dsimp only
      refine s_if w3 (et_or (et_test (ev_eqI (ev_lenT (ev_var (S := (rTpl rInt).s K x_part2.1) rfl h5)) ev_int)) (fun _ => (et_test (ev_lt (ev_T2b (ev_var (S := (rT2 (rTpl rInt) rInt).s K x_part2) rfl (Sv.mono _ x3 hx1))) ev_int))) (fun _ => rfl)) (fun hb B6 H6 x6 w6 => ?_) (fun hb B6 H6 x6 w6 => ?_)
      · have hm := it hb hm
        refine s_ret w6 ev_bl (fun vv B7 H7 x7 w7 hv => ?_)
        cases hm
        replace hm := hrt1 _ rfl
        cases hm
        exact k _ _ _ w7.st w7.ex ((imm_flat _) _ _ _ _ _ hv)
      · have hm := ie hb hm
        obtain ⟨xs8, e9, hm⟩ := ob hm
        refine s_for (R := rInt) (oo := (fun (rr : Unit) => [])) (ρ0 := ()) (fun (x_k11 : Int) (_ : Unit) => ((atI x_part2.1 x_k11).bind fun t12 =>
(cond (!decide (t12 ∈ shut)) (some true) ((cond (decide ((0 : Int) < x_k11)) ((atI x_part2.1 (x_k11 - (1 : Int))).bind fun t14 => (atI x_part2.1 x_k11).bind fun t16 => some (decide (t16 ≤ t14))) (some false)).bind fun b18 => some b18)).bind fun b20 =>
cond b20 (some (.rt false)) (some (.nx ())) : Option (Ctl Unit Bool))) (fun (_ : Unit) σ' B' => ∃ o_5 : Option V, ∃ o_6 : Option V, ∃ o_7 : Option V, ∃ o_8 : Option V, σ' = [some v0, some v1, some v2, some vx1, some v_4, o_5, o_6, o_7, o_8]) (fun zz => finK _ _ zz = some _) w6 (ei_r1 (ev_lenT (ev_var (S := (rTpl rInt).s K x_part2.1) rfl (Sv.mono _ x6 h5))) e9) (fun rr σ' B1 B2 e ⟨o_5, o_6, o_7, o_8, hσ⟩ => ⟨o_5, o_6, o_7, o_8, hσ⟩) (fun B2 e => ⟨_, _, _, _, rfl⟩) hm ?_ ?_
        · rintro x_k11 rst rr vx10 σ' Bt10 Ht10 xt10 wt10 ⟨o_5t10, o_6t10, o_7t10, o_8t10, rfl⟩ hx10 hf N hN dn
          dsimp only [gName]
          obtain ⟨ctl, hfx, hbk10, hrt10⟩ := forL_step hf
          have hm := hfx
          obtain ⟨t12, e13, hm⟩ := ob hm
          obtain ⟨b20, e21, hm⟩ := ob hm
          try dsimp only
          refine s_if wt10 (et_orO (b := b20) (et_test (ev_notin (ev_ixT (ev_var (S := (rTpl rInt).s K x_part2.1) rfl (Sv.mono _ xt10 (Sv.mono _ x6 h5))) (ev_var (S := rInt.s K x_k11) rfl hx10) e13) (ev_var (S := (rLst rInt).s K shut) rfl (Sv.mono _ xt10 (Sv.mono _ x6 (Sv.mono _ x3 (Sv.mono _ xt1 z1))))) src_p)) (fun hc => by have e21 := ie hc e21; obtain ⟨b18, e19, e21⟩ := ob e21; have hq_ := Option.some.inj e21; subst hq_; exact (et_andO (b := b18) (et_test (ev_gt (ev_var (S := rInt.s K x_k11) rfl hx10) ev_int)) (fun hc => by have e19 := it hc e19; obtain ⟨t14, e15, e19⟩ := ob e19; obtain ⟨t16, e17, e19⟩ := ob e19; have hq_ := Option.some.inj e19; subst hq_; exact (et_test (ev_ge (ev_ixT (ev_var (S := (rTpl rInt).s K x_part2.1) rfl (Sv.mono _ xt10 (Sv.mono _ x6 h5))) (ev_sub (ev_var (S := rInt.s K x_k11) rfl hx10) ev_int) e15) (ev_ixT (ev_var (S := (rTpl rInt).s K x_part2.1) rfl (Sv.mono _ xt10 (Sv.mono _ x6 h5))) (ev_var (S := rInt.s K x_k11) rfl hx10) e17)))) (fun hc => by have e19 := ie hc e19; cases e19; exact ⟨rfl, rfl⟩))) (fun hc => by have e21 := it hc e21; cases e21; exact ⟨rfl, rfl⟩)) (fun hb B22 H22 x22 w22 => ?_) (fun hb B22 H22 x22 w22 => ?_)
          · have hm := it hb hm
            refine s_ret w22 ev_bl (fun vv B23 H23 x23 w23 hv => ?_)
            cases hm
            replace hm := hrt10 _ rfl
            cases hm
            replace hm := hrt1 _ rfl
            cases hm
            exact k _ _ _ w23.st w23.ex ((imm_flat _) _ _ _ _ _ hv)
          · have hm := ie hb hm
            have hq_ := Option.some.inj hm
            subst hq_
            exact hN () _ _ _ hfx x22 w22 ⟨_, _, _, _, rfl⟩
        · rintro rr σ' B24 H24 x24 w24 ⟨o_5k25, o_6k25, o_7k25, o_8k25, rfl⟩ hm
          try dsimp only
          replace hm := finK_nx hm
          have hq_ := Option.some.inj hm
          subst hq_
          exact hN () _ _ _ hfx ((x3.trans x6).trans x24) w24 ⟨_, _, _, _, _, _, rfl⟩
    · rintro rr σ' B26 H26 x26 w26 ⟨o_3k27, o_4k27, o_5k27, o_6k27, o_7k27, o_8k27, rfl⟩ hm
      try dsimp only
      replace hm := finK_nx hm
      refine s_for (R := rInt) (oo := (fun (rr : Unit) => [])) (ρ0 := ()) (fun (place29 : Int) (_ : Unit) => ((rngO (0 : Int) ((table.length : Int) + (1 : Int))).bind fun xs30 =>
finK (fun (_ : Unit) => (some (.nx ()))) (fun (tt : Bool) => some (.rt tt)) (forL (fun (x_end33 : Int) (_ : Unit) => (cond (!decide (x_end33 = place29)) ((lcO (fun (x_part : (List Int) × Int) (rr : Unit) => match rr with | () => some (((decide (place29 ∈ x_part.1)) && (!decide (x_end33 ∈ x_part.1))), ())) (fun (x_part : (List Int) × Int) (rr : Unit) => match rr with | () => some (x_part.2, ())) parts ()).bind fun (ys35, _) =>
(atI table place29).bind fun t40 =>
(atI t40 x_end33).bind fun t42 =>
cond (decide (t42 < ys35.sum)) (some (.rt false)) (some (.nx ()))) (some (.nx ())) : Option (Ctl Unit Bool))) xs30 ()) : Option (Ctl Unit Bool))) (fun (_ : Unit) σ' B' => ∃ o_3 : Option V, ∃ o_4 : Option V, ∃ o_5 : Option V, ∃ o_6 : Option V, ∃ o_7 : Option V, ∃ o_8 : Option V, σ' = [some v0, some v1, some v2, o_3, o_4, o_5, o_6, o_7, o_8]) (fun zz => finK _ _ zz = some _) w26 (ei_list (ev_var (S := (rLst rInt).s K shut) rfl (Sv.mono _ x26 z1))) (fun rr σ' B1 B2 e ⟨o_3, o_4, o_5, o_6, o_7, o_8, hσ⟩ => ⟨o_3, o_4, o_5, o_6, o_7, o_8, hσ⟩) (fun B2 e => ⟨_, _, _, _, _, _, rfl⟩) hm ?_ ?_
      · rintro place29 rst rr vx28 σ' Bt28 Ht28 xt28 wt28 ⟨o_3t28, o_4t28, o_5t28, o_6t28, o_7t28, o_8t28, rfl⟩ hx28 hf N hN dn
        dsimp only [gName]
        obtain ⟨ctl, hfx, hbk28, hrt28⟩ := forL_step hf
        have hm := hfx
        obtain ⟨xs30, e31, hm⟩ := ob hm
        refine s_for (R := rInt) (oo := (fun (rr : Unit) => [])) (ρ0 := ()) (fun (x_end33 : Int) (_ : Unit) => (cond (!decide (x_end33 = place29)) ((lcO (fun (x_part : (List Int) × Int) (rr : Unit) => match rr with | () => some (((decide (place29 ∈ x_part.1)) && (!decide (x_end33 ∈ x_part.1))), ())) (fun (x_part : (List Int) × Int) (rr : Unit) => match rr with | () => some (x_part.2, ())) parts ()).bind fun (ys35, _) =>
(atI table place29).bind fun t40 =>
(atI t40 x_end33).bind fun t42 =>
cond (decide (t42 < ys35.sum)) (some (.rt false)) (some (.nx ()))) (some (.nx ())) : Option (Ctl Unit Bool))) (fun (_ : Unit) σ' B' => ∃ o_3 : Option V, ∃ o_4 : Option V, ∃ o_5 : Option V, ∃ o_7 : Option V, ∃ o_8 : Option V, σ' = [some v0, some v1, some v2, o_3, o_4, o_5, some vx28, o_7, o_8]) (fun zz => finK _ _ zz = some _) wt28 (ei_r1 (ev_add (ev_len (ev_var (S := (rLst (rLst rInt)).s K table) rfl (Sv.mono _ xt28 (Sv.mono _ x26 z0))) src_p) ev_int) e31) (fun rr σ' B1 B2 e ⟨o_3, o_4, o_5, o_7, o_8, hσ⟩ => ⟨o_3, o_4, o_5, o_7, o_8, hσ⟩) (fun B2 e => ⟨_, _, _, _, _, rfl⟩) hm ?_ ?_
        · rintro x_end33 rst rr vx32 σ' Bt32 Ht32 xt32 wt32 ⟨o_3t32, o_4t32, o_5t32, o_7t32, o_8t32, rfl⟩ hx32 hf N hN dn
          dsimp only [gName]
          obtain ⟨ctl, hfx, hbk32, hrt32⟩ := forL_step hf
          have hm := hfx
          try dsimp only
          refine s_if wt32 (et_test (ev_neI (ev_var (S := rInt.s K x_end33) rfl hx32) (ev_var (S := rInt.s K place29) rfl (Sv.mono _ xt32 hx28)))) (fun hb B34 H34 x34 w34 => ?_) (fun hb B34 H34 x34 w34 => ?_)
          · have hm := it hb hm
            obtain ⟨⟨ys35, _⟩, e36, hm⟩ := ob hm
            try dsimp only at hm
            refine s_asg w34 (ev_sum (ev_lc (R := (rT2 (rTpl rInt) rInt)) (R' := rInt) (oo := (fun (rr : Unit) => [])) (fun (x_part : (List Int) × Int) (rr : Unit) => match rr with | () => some (((decide (place29 ∈ x_part.1)) && (!decide (x_end33 ∈ x_part.1))), ())) (fun (x_part : (List Int) × Int) (rr : Unit) => match rr with | () => some (x_part.2, ())) (lcT (rT2 (rTpl rInt) rInt) K _ 3 [3]) (ei_list (ev_var (S := (rLst (rT2 (rTpl rInt) rInt)).s K parts) rfl (Sv.mono _ x34 (Sv.mono _ xt32 (Sv.mono _ xt28 (Sv.mono _ x26 z2)))))) e36 (lcT_mono _ _ _ _ _) (lcT_name rfl 3 [3] (by intro x; rfl)) (fun x_part rr bb r1 σ2 B' pD acc ht eB ⟨vx, hσ, hx⟩ => by subst hσ; cases ht; exact (et_and (et_test (ev_inT (ev_var (S := rInt.s K place29) rfl (Sv.mono _ eB (Sv.mono _ x34 (Sv.mono _ xt32 hx28)))) (ev_T2a (ev_var (S := (rT2 (rTpl rInt) rInt).s K x_part) rfl hx)))) (fun _ => (et_test (ev_notinT (ev_var (S := rInt.s K x_end33) rfl (Sv.mono _ eB (Sv.mono _ x34 hx32))) (ev_T2a (ev_var (S := (rT2 (rTpl rInt) rInt).s K x_part) rfl hx))))) (fun _ => rfl))) (fun x_part rr yy r1 σ2 B' pD acc he eB ⟨vx, hσ, hx⟩ => by subst hσ; cases he; exact (ev_T2b (ev_var (S := (rT2 (rTpl rInt) rInt).s K x_part) rfl hx)))) src_n) (fun v_38 B37 H37 x37 w37 h39 => ?_)
            obtain ⟨t40, e41, hm⟩ := ob hm
            obtain ⟨t42, e43, hm⟩ := ob hm
            try dsimp only
            refine s_if w37 (et_test (ev_gt (ev_var (S := rInt.s K ys35.sum) rfl h39) (ev_ix (ev_ix (ev_var (S := (rLst (rLst rInt)).s K table) rfl (Sv.mono _ x37 (Sv.mono _ x34 (Sv.mono _ xt32 (Sv.mono _ xt28 (Sv.mono _ x26 z0)))))) (ev_var (S := rInt.s K place29) rfl (Sv.mono _ x37 (Sv.mono _ x34 (Sv.mono _ xt32 hx28)))) src_p e41) (ev_var (S := rInt.s K x_end33) rfl (Sv.mono _ x37 (Sv.mono _ x34 hx32))) src_p e43))) (fun hb B44 H44 x44 w44 => ?_) (fun hb B44 H44 x44 w44 => ?_)
            · have hm := it hb hm
              refine s_ret w44 ev_bl (fun vv B45 H45 x45 w45 hv => ?_)
              cases hm
              replace hm := hrt32 _ rfl
              cases hm
              replace hm := hrt28 _ rfl
              cases hm
              exact k _ _ _ w45.st w45.ex ((imm_flat _) _ _ _ _ _ hv)
            · have hm := ie hb hm
              have hq_ := Option.some.inj hm
              subst hq_
              exact hN () _ _ _ hfx ((x34.trans x37).trans x44) w44 ⟨_, _, _, _, _, rfl⟩
          · have hm := ie hb hm
            have hq_ := Option.some.inj hm
            subst hq_
            exact hN () _ _ _ hfx x34 w34 ⟨_, _, _, _, _, rfl⟩
        · rintro rr σ' B46 H46 x46 w46 ⟨o_3k47, o_4k47, o_5k47, o_7k47, o_8k47, rfl⟩ hm
          try dsimp only
          replace hm := finK_nx hm
          have hq_ := Option.some.inj hm
          subst hq_
          exact hN () _ _ _ hfx x46 w46 ⟨_, _, _, _, _, _, rfl⟩
      · rintro rr σ' B48 H48 x48 w48 ⟨o_3k49, o_4k49, o_5k49, o_6k49, o_7k49, o_8k49, rfl⟩ hm
        try dsimp only
        replace hm := finK_nx hm
        refine s_ret w48 ev_bl (fun vv B50 H50 x50 w50 hv => ?_)
        cases hm
        exact k _ _ _ w50.st w50.ex ((imm_flat _) _ _ _ _ _ hv)
end G

/-! T3 -/
set_option Elab.async false
set_option linter.all false
set_option maxRecDepth 100000
set_option maxHeartbeats 4000000
namespace G
open PySem PySem.Spec L2 Dl
def m__law_start : (List Int) × Int → Option (List Int) := fun (script, x_at) =>
  (cond (decide ((0 : Int) < (script.length : Int))) ((atI script (0 : Int)).bind fun t6 =>
  (modO (if t6 < 0 then -t6 else t6) (1000000007 : Int)).bind fun t8 =>
  some t8) (some (0 : Int))).bind fun first5 =>
  cond (decide ((script.length : Int) ≤ x_at)) ((mulO first5 (31 : Int)).bind fun t16 =>
  (mulO x_at (1009 : Int)).bind fun t18 =>
  some [(0 : Int), ((t16 + t18) + (17 : Int)), (0 : Int)]) ((atI script x_at).bind fun t21 =>
  cond (decide ((if t21 < 0 then -t21 else t21) < ((10 : Int) ^ (18 : Int).toNat))) ((modO (if t21 < 0 then -t21 else t21) (1000000007 : Int)).bind fun t27 =>
  (mulO x_at (101 : Int)).bind fun t29 =>
  some [(0 : Int), (t27 + t29), (0 : Int)]) ((modO (if t21 < 0 then -t21 else t21) (1000000007 : Int)).bind fun t32 =>
  some [(if t21 < 0 then -t21 else t21), t32, (0 : Int)]))
def p__law_start (K : Fg) : Sp := Pr0 K (fun (g : (List Int) × Int) => [rScr.s K g.1, rInt.s K g.2]) m__law_start (rLst rInt)
abbrev N__law_start : List Str := ["script", "at", "first", "cell"]
theorem sc__law_start : FnScope N__law_start ["script", "at"] (defScope s__law_start) := ⟨rfl, rfl, rfl, by decide +kernel, rfl, by decide +kernel, by decide +kernel⟩
theorem ok__law_start {P : Program} {w : World} {K : Fg} {mg : Str → Option Value} {base : Heap} (T : Tx P K mg) {fd : FuncData} (F : FnP K "_law_start" s__law_start (He.ga K "_law_start") fd) : FnOk P w K mg base (L2.CX P w) 1 (He.ga K "_law_start") fd ["script", "at"] (p__law_start K) := by
  have sc := sc__law_start
  refine F.ok sc (fun vs H Q E h => ?_) (fun cdv A outer s H vs Q E hr h => ?_)
  · obtain ⟨g, z, B, ss, _⟩ := h
    exact (Paired.length ss).trans rfl
  · obtain ⟨⟨script, x_at⟩, z, B, ss, ex, hm, k⟩ := h
    obtain ⟨v0, v1, rfl, z0, z1⟩ := pn2 ss
    refine ⟨_, (pss_cons (ps_set (i := 2) sc.nd rfl (Or.inl rfl) pe_int) (pss_cons (ps_if (pt_cmpR op_gt (pe_callB (clen (K := K) rfl) (by rfl) T.b_len (by decide +kernel) (pa_cons (pv 0) pa_nil)) pe_int (nomark _)) (pss_one (ps_set (i := 2) sc.nd rfl (Or.inl rfl) (pe_op op_modN (pe_callTy call_int1 (by rfl) T.b_int (by decide +kernel) (pa_cons (pe_callB call_abs (by rfl) T.b_abs (by decide +kernel) (pa_cons (pe_ix (ixl (K := K) rfl) (pv 0) pe_int (fun _ _ => rfl)) pa_nil)) pa_nil)) pe_int))) pss_nil) (pss_cons (ps_if (pt_cmpR op_ge (pv 1) (pe_callB (clen (K := K) rfl) (by rfl) T.b_len (by decide +kernel) (pa_cons (pv 0) pa_nil)) (nomark _)) (pss_one (ps_ret (pe_lst (pa_cons pe_int (pa_cons (pe_op op_add (pe_op op_add (pe_op op_mul (pv 2) pe_int) (pe_op op_mul (pv 1) pe_int)) pe_int) (pa_cons pe_int pa_nil)))))) pss_nil) (pss_cons (ps_set (i := 3) sc.nd rfl (Or.inl rfl) (pe_callB call_abs (by rfl) T.b_abs (by decide +kernel) (pa_cons (pe_ix (ixl (K := K) rfl) (pv 0) (pv 1) (fun _ _ => rfl)) pa_nil))) (pss_cons (ps_if (pt_cmpR op_lt (pv 3) (pe_op op_pow pe_int pe_int) (nomark _)) (pss_one (ps_ret (pe_lst (pa_cons pe_int (pa_cons (pe_op op_add (pe_op op_modN (pe_callTy call_int1 (by rfl) T.b_int (by decide +kernel) (pa_cons (pv 3) pa_nil)) pe_int) (pe_op op_mul (pv 1) pe_int)) (pa_cons pe_int pa_nil)))))) pss_nil) (pss_one (ps_ret (pe_lst (pa_cons (pv 3) (pa_cons (pe_op op_modN (pe_callTy call_int1 (by rfl) T.b_int (by decide +kernel) (pa_cons (pv 3) pa_nil)) pe_int) (pa_cons pe_int pa_nil))))))))))), ?_⟩
    have w := Wd.start (K := K) ex
    unfold m__law_start at hm
    refine s_asg w ev_int (fun v_2 B1 H1 x1 w1 h3 => ?_)
    obtain ⟨rj, hA35, hm⟩ := ob hm
    refine s_ifJ (ks2 := []) (oo := (fun (rr : Int) => [])) (fun (rr : Int) σ' B' => ∃ v_2 : V, ∃ o_3 : Option V, σ' = [some v0, some v1, some v_2, o_3] ∧ (rInt.s K rr).p v_2 B') (fun rr => rr = rj) w1 (et_test (ev_gt (ev_lenZ (ev_var (S := rScr.s K script) rfl (Sv.mono _ x1 z0))) ev_int)) ?_ (fun hb B4 H4 x4 w4 N hN => ?_) (fun hb B4 H4 x4 w4 N hN => ?_)
    · rintro first5 σ' B13 H13 x13 w13 ⟨v_2k14, o_3k14, rfl, hj0k14⟩ hq
      subst hq
      try dsimp only
      try dsimp only
      refine s_if w13 (et_test (ev_ge (ev_var (S := rInt.s K x_at) rfl (Sv.mono _ x13 (Sv.mono _ x1 z1))) (ev_lenZ (ev_var (S := rScr.s K script) rfl (Sv.mono _ x13 (Sv.mono _ x1 z0)))))) (fun hb B15 H15 x15 w15 => ?_) (fun hb B15 H15 x15 w15 => ?_)
      · have hm := it hb hm
        obtain ⟨t16, e17, hm⟩ := ob hm
        obtain ⟨t18, e19, hm⟩ := ob hm
        refine s_ret w15 (ev_lst (R := rInt) (xs := [(0 : Int), ((t16 + t18) + (17 : Int)), (0 : Int)]) (ea_cons ev_int (ea_cons (ev_add (ev_add (ev_mul (ev_var (S := rInt.s K first5) rfl (Sv.mono _ x15 hj0k14)) ev_int e17) (ev_mul (ev_var (S := rInt.s K x_at) rfl (Sv.mono _ x15 (Sv.mono _ x13 (Sv.mono _ x1 z1)))) ev_int e19)) ev_int) (ea_cons ev_int ea_nil))) (by show 3 ≤ 1000; decide)) (fun vv B20 H20 x20 w20 hv => ?_)
        cases hm
        exact k _ _ _ w20.st w20.ex (r_n w15 (imm_flat _) hv)
      · have hm := ie hb hm
        obtain ⟨t21, e22, hm⟩ := ob hm
        refine s_asg w15 (ev_abs (ev_ixZ (ev_var (S := rScr.s K script) rfl (Sv.mono _ x15 (Sv.mono _ x13 (Sv.mono _ x1 z0)))) (ev_var (S := rInt.s K x_at) rfl (Sv.mono _ x15 (Sv.mono _ x13 (Sv.mono _ x1 z1)))) e22)) (fun v_24 B23 H23 x23 w23 h25 => ?_)
        try dsimp only
        refine s_if w23 (et_test (ev_lt (ev_var (S := rInt.s K (if t21 < 0 then -t21 else t21)) rfl h25) (ev_pow ev_int ev_int (by decide)))) (fun hb B26 H26 x26 w26 => ?_) (fun hb B26 H26 x26 w26 => ?_)
        · have hm := it hb hm
          obtain ⟨t27, e28, hm⟩ := ob hm
          obtain ⟨t29, e30, hm⟩ := ob hm
          refine s_ret w26 (ev_lst (R := rInt) (xs := [(0 : Int), (t27 + t29), (0 : Int)]) (ea_cons ev_int (ea_cons (ev_add (ev_mod (ev_int1 (ev_var (S := rInt.s K (if t21 < 0 then -t21 else t21)) rfl (Sv.mono _ x26 h25))) ev_int e28) (ev_mul (ev_var (S := rInt.s K x_at) rfl (Sv.mono _ x26 (Sv.mono _ x23 (Sv.mono _ x15 (Sv.mono _ x13 (Sv.mono _ x1 z1)))))) ev_int e30)) (ea_cons ev_int ea_nil))) (by show 3 ≤ 1000; decide)) (fun vv B31 H31 x31 w31 hv => ?_)
          cases hm
          exact k _ _ _ w31.st w31.ex (r_n w26 (imm_flat _) hv)
        · have hm := ie hb hm
          obtain ⟨t32, e33, hm⟩ := ob hm
          refine s_ret w26 (ev_lst (R := rInt) (xs := [(if t21 < 0 then -t21 else t21), t32, (0 : Int)]) (ea_cons (ev_var (S := rInt.s K (if t21 < 0 then -t21 else t21)) rfl (Sv.mono _ x26 h25)) (ea_cons (ev_mod (ev_int1 (ev_var (S := rInt.s K (if t21 < 0 then -t21 else t21)) rfl (Sv.mono _ x26 h25))) ev_int e33) (ea_cons ev_int ea_nil))) (by show 3 ≤ 1000; decide)) (fun vv B34 H34 x34 w34 hv => ?_)
          cases hm
          exact k _ _ _ w34.st w34.ex (r_n w26 (imm_flat _) hv)
    · have hm := it hb hA35
      obtain ⟨t6, e7, hm⟩ := ob hm
      obtain ⟨t8, e9, hm⟩ := ob hm
      refine s_asg w4 (ev_mod (ev_int1 (ev_abs (ev_ixZ (ev_var (S := rScr.s K script) rfl (Sv.mono _ x4 (Sv.mono _ x1 z0))) ev_int e7))) ev_int e9) (fun v_11 B10 H10 x10 w10 h12 => ?_)
      have hq_ := Option.some.inj hm
      subst hq_
      exact hN t8 _ _ _ (x4.trans x10) w10 ⟨v_11, _, rfl, h12⟩ rfl
    · have hm := ie hb hA35
      have hq_ := Option.some.inj hm
      subst hq_
      exact hN (0 : Int) _ _ _ x4 w4 ⟨v_2, _, rfl, (Sv.mono _ x4 h3)⟩ rfl
def m__law_table_told : (List (List Int)) × Int → Option ((List Tag) ⊕ (Tag × Int × Bool × Bool)) := fun (table, which) =>
  cond (decide (which = (0 : Int))) ((m_check_tolls table).bind fun rx => match rx with
  | .error r5 => (xM (xIs "BadPlace" "place" r5) (fun n8 => (some (Sum.inl [tg_refused]))) (xM (xIs "BadSize" "size" r5) (fun n18 => (some (Sum.inl [tg_refused]))) (xM (xIs "BadNumber" "number" r5) (fun n28 => (some (Sum.inl [tg_refused]))) (xM (xIs "BadTolls" "place" r5) (fun n38 => (some (Sum.inr (tg_tolls, n38, true, false)))) (xM (xIs "BadPlan" "place" r5) (fun n48 => (some (Sum.inl [tg_refused]))) (none))))))
  | .ok r5 => (cond ((none : Option Int).isSome) (some (Sum.inl [tg_other])) (some (Sum.inl [tg_let])))) (cond (decide (which = (1 : Int))) ((m_toll_of (table, (-(5 : Int)), (-(5 : Int)))).bind fun rx => match rx with
  | .error r65 => (xM (xIs "BadPlace" "place" r65) (fun n68 => (some (Sum.inl [tg_refused]))) (xM (xIs "BadSize" "size" r65) (fun n78 => (some (Sum.inl [tg_refused]))) (xM (xIs "BadNumber" "number" r65) (fun n88 => (some (Sum.inl [tg_refused]))) (xM (xIs "BadTolls" "place" r65) (fun n98 => (some (Sum.inr (tg_tolls, n98, true, false)))) (xM (xIs "BadPlan" "place" r65) (fun n108 => (some (Sum.inl [tg_refused]))) (none))))))
  | .ok r65 => (some (Sum.inl [tg_let]))) (cond (decide (which = (2 : Int))) ((m_with_toll (table, (-(5 : Int)), (-(5 : Int)), (0 : Int))).bind fun rx => match rx with
  | .error r121 => (xM (xIs "BadPlace" "place" r121) (fun n124 => (some (Sum.inl [tg_refused]))) (xM (xIs "BadSize" "size" r121) (fun n134 => (some (Sum.inl [tg_refused]))) (xM (xIs "BadNumber" "number" r121) (fun n144 => (some (Sum.inl [tg_refused]))) (xM (xIs "BadTolls" "place" r121) (fun n154 => (some (Sum.inr (tg_tolls, n154, true, false)))) (xM (xIs "BadPlan" "place" r121) (fun n164 => (some (Sum.inl [tg_refused]))) (none))))))
  | .ok r121 => (some (Sum.inl [tg_let]))) (cond (decide (which = (3 : Int))) ((m_plan_price (table, ([] : List Int))).bind fun rx => match rx with
  | .error r177 => (xM (xIs "BadPlace" "place" r177) (fun n180 => (some (Sum.inl [tg_refused]))) (xM (xIs "BadSize" "size" r177) (fun n190 => (some (Sum.inl [tg_refused]))) (xM (xIs "BadNumber" "number" r177) (fun n200 => (some (Sum.inl [tg_refused]))) (xM (xIs "BadTolls" "place" r177) (fun n210 => (some (Sum.inr (tg_tolls, n210, true, false)))) (xM (xIs "BadPlan" "place" r177) (fun n220 => (some (Sum.inl [tg_refused]))) (none))))))
  | .ok r177 => (some (Sum.inl [tg_let]))) ((m_bill_holds (table, [(-(5 : Int))], ([] : List ((List Int) × Int)))).bind fun rx => match rx with
  | .error r232 => (xM (xIs "BadPlace" "place" r232) (fun n235 => (some (Sum.inl [tg_refused]))) (xM (xIs "BadSize" "size" r232) (fun n245 => (some (Sum.inl [tg_refused]))) (xM (xIs "BadNumber" "number" r232) (fun n255 => (some (Sum.inl [tg_refused]))) (xM (xIs "BadTolls" "place" r232) (fun n265 => (some (Sum.inr (tg_tolls, n265, true, false)))) (xM (xIs "BadPlan" "place" r232) (fun n275 => (some (Sum.inl [tg_refused]))) (none))))))
  | .ok r232 => (some (Sum.inl [tg_let]))))))
def p__law_table_told (K : Fg) : Sp := Pr0 K (fun (g : (List (List Int)) × Int) => [(rLst (rLst rInt)).s K g.1, rInt.s K g.2]) m__law_table_told (rEi (rTpl rTag) (rT4 rTag rInt rBool rBool))
abbrev N__law_table_told : List Str := ["table", "which", "told", "e"]
theorem sc__law_table_told : FnScope N__law_table_told ["table", "which"] (defScope s__law_table_told) := ⟨rfl, rfl, rfl, by decide +kernel, rfl, by decide +kernel, by decide +kernel⟩
theorem ok__law_table_told {P : Program} {w : World} {K : Fg} {mg : Str → Option Value} {base : Heap} (T : Tx P K mg) {fd : FuncData} (F : FnP K "_law_table_told" s__law_table_told (He.ga K "_law_table_told") fd) : FnOk P w K mg base (L2.CX P w) 6 (He.ga K "_law_table_told") fd ["table", "which"] (p__law_table_told K) := by
  obtain ⟨fd_bill_holds, F_bill_holds⟩ := T.f_bill_holds
  have G_bill_holds : FnOk P w K mg base (L2.CX P w) 4 (He.ga K "bill_holds") fd_bill_holds ["tolls", "shut", "parts"] (p_bill_holds K) := ok_bill_holds T F_bill_holds
  have b_bill_holds : Binds K fd_bill_holds ["tolls", "shut", "parts"] [] := F_bill_holds.bindsN fun _ _ _ _ _ _ us hl => match us, hl with | [_, _, _], _ => rfl
  obtain ⟨fd_check_tolls, F_check_tolls⟩ := T.f_check_tolls
  have G_check_tolls : FnOk P w K mg base (L2.CX P w) 3 (He.ga K "check_tolls") fd_check_tolls ["tolls"] (p_check_tolls K) := ok_check_tolls T F_check_tolls
  have b_check_tolls : Binds K fd_check_tolls ["tolls"] [] := F_check_tolls.bindsN fun _ _ _ _ _ _ us hl => match us, hl with | [_], _ => rfl
  obtain ⟨fd_plan_price, F_plan_price⟩ := T.f_plan_price
  have G_plan_price : FnOk P w K mg base (L2.CX P w) 4 (He.ga K "plan_price") fd_plan_price ["tolls", "plan"] (p_plan_price K) := ok_plan_price T F_plan_price
  have b_plan_price : Binds K fd_plan_price ["tolls", "plan"] [] := F_plan_price.bindsN fun _ _ _ _ _ _ us hl => match us, hl with | [_, _], _ => rfl
  obtain ⟨fd_toll_of, F_toll_of⟩ := T.f_toll_of
  have G_toll_of : FnOk P w K mg base (L2.CX P w) 5 (He.ga K "toll_of") fd_toll_of ["tolls", "place", "end"] (p_toll_of K) := ok_toll_of T F_toll_of
  have b_toll_of : Binds K fd_toll_of ["tolls", "place", "end"] [] := F_toll_of.bindsN fun _ _ _ _ _ _ us hl => match us, hl with | [_, _, _], _ => rfl
  obtain ⟨fd_with_toll, F_with_toll⟩ := T.f_with_toll
  have G_with_toll : FnOk P w K mg base (L2.CX P w) 5 (He.ga K "with_toll") fd_with_toll ["tolls", "place", "end", "toll"] (p_with_toll K) := ok_with_toll T F_with_toll
  have b_with_toll : Binds K fd_with_toll ["tolls", "place", "end", "toll"] [] := F_with_toll.bindsN fun _ _ _ _ _ _ us hl => match us, hl with | [_, _, _, _], _ => rfl
  have sc := sc__law_table_told
  refine F.ok sc (fun vs H Q E h => ?_) (fun cdv A outer s H vs Q E hr h => ?_)
  · obtain ⟨g, z, B, ss, _⟩ := h
    exact (Paired.length ss).trans rfl
  · obtain ⟨⟨table, which⟩, z, B, ss, ex, hm, k⟩ := h
    obtain ⟨v0, v1, rfl, z0, z1⟩ := pn2 ss
    refine ⟨_, (pss_cons (ps_set (i := 2) sc.nd rfl (Or.inl rfl) (pe_tup (pa_cons pe_str pa_nil))) (pss_cons (ps_try_hs rfl rfl tk0 (fun W pn xe tk_ _ => (pss_one (ps_if (pt_cmpR op_eq (pv 1) pe_int (nomark _)) (pss_one (ps_if (pt_cmpR op_notN (pe_callS G_check_tolls (hr.mono (by decide)) (by rfl) T.m_check_tolls F_check_tolls.kp b_check_tolls (fun σ_ => passAt tk_ σ_) (pa_cons (pv 0) pa_nil)) pe_non (nomark _)) (pss_one (ps_set (i := 2) sc.nd rfl (Or.inl rfl) (pe_tup (pa_cons pe_str pa_nil)))) pss_nil)) (pss_one (ps_if (pt_cmpR op_eq (pv 1) pe_int (nomark _)) (pss_one (ps_expr (pe_callS G_toll_of (hr.mono (by decide)) (by rfl) T.m_toll_of F_toll_of.kp b_toll_of (fun σ_ => passAt tk_ σ_) (pa_cons (pv 0) (pa_cons (pe_un un_neg pe_int) (pa_cons (pe_un un_neg pe_int) pa_nil)))))) (pss_one (ps_if (pt_cmpR op_eq (pv 1) pe_int (nomark _)) (pss_one (ps_expr (pe_callS G_with_toll (hr.mono (by decide)) (by rfl) T.m_with_toll F_with_toll.kp b_with_toll (fun σ_ => passAt tk_ σ_) (pa_cons (pv 0) (pa_cons (pe_un un_neg pe_int) (pa_cons (pe_un un_neg pe_int) (pa_cons pe_int pa_nil))))))) (pss_one (ps_if (pt_cmpR op_eq (pv 1) pe_int (nomark _)) (pss_one (ps_expr (pe_callS G_plan_price (hr.mono (by decide)) (by rfl) T.m_plan_price F_plan_price.kp b_plan_price (fun σ_ => passAt tk_ σ_) (pa_cons (pv 0) (pa_cons (pe_lst pa_nil) pa_nil))))) (pss_one (ps_expr (pe_callS G_bill_holds (hr.mono (by decide)) (by rfl) T.m_bill_holds F_bill_holds.kp b_bill_holds (fun σ_ => passAt tk_ σ_) (pa_cons (pv 0) (pa_cons (pe_lst (pa_cons (pe_un un_neg pe_int) pa_nil)) (pa_cons (pe_lst pa_nil) pa_nil))))))))))))))) (HdA.a (i := 3) sc.nd rfl rfl ⟨by rfl, by decide, Or.inl T.g_BadTolls⟩ (fun a oe cls d pn hz hf => (pss_one (ps_set (i := 2) sc.nd rfl (Or.inl rfl) (pe_tup (pa_cons pe_str (pa_cons (pe_xf (C := He.ga K "BadTolls") T.xf_BadTolls T.no_BadTolls hz hf (pv 3)) (pa_cons (pe_callB (xE_one (K := K) (D := He.ga K "BadTolls") rfl T.ec_BadTolls hz hf) (by rfl) T.b_isinstance (by decide +kernel) (pa_cons (pv 3) (pa_cons (pe_glob (v := .ref (He.ga K "TiedError")) (by rfl) T.g_TiedError rfl) pa_nil))) (pa_cons (pe_callB (xE_tup (K := K) (D := He.ga K "BadTolls") rfl T.ec_BadTolls hz hf) (by rfl) T.b_isinstance (by decide +kernel) (pa_cons (pv 3) (pa_cons (pe_tup (pa_cons (pe_glob (v := .ref (He.ga K "BadPlace")) (by rfl) T.g_BadPlace rfl) (pa_cons (pe_glob (v := .ref (He.ga K "BadPlan")) (by rfl) T.g_BadPlan rfl) (pa_cons (pe_glob (v := .ref (He.ga K "BadNumber")) (by rfl) T.g_BadNumber rfl) (pa_cons (pe_glob (v := .ref (He.ga K "BadSize")) (by rfl) T.g_BadSize rfl) pa_nil))))) pa_nil))) pa_nil)))))))) (HdA.p ⟨by rfl, by decide, Or.inl T.g_TiedError⟩ (fun a oe cls d pn hz hf => (pss_one (ps_set (i := 2) sc.nd rfl (Or.inl rfl) (pe_tup (pa_cons pe_str pa_nil))))) HdA.nil))) (pss_one (ps_ret (pv 2))))), ?_⟩
    have w := Wd.start (K := K) ex
    unfold m__law_table_told at hm
    refine s_asg w ((ev_tpl (R := rTag) (xs := [tg_let]) (ea_cons (ev_tag tg_let) ea_nil) (by show 1 ≤ 1000; decide)).le (s_inl (R := (rTpl rTag)) (R' := (rT4 rTag rInt rBool rBool)))) (fun v_2 B1 H1 x1 w1 h3 => ?_)
    try dsimp only
    refine s_if w1 (et_test (ev_eqI (ev_var (S := rInt.s K which) rfl (Sv.mono _ x1 z1)) ev_int)) (fun hb B4 H4 x4 w4 => ?_) (fun hb B4 H4 x4 w4 => ?_)
    · have hm := it hb hm
      obtain ⟨r5, e6, hm⟩ := ob hm
      cases r5 with
      | error r5 =>
        try dsimp only [tAsg, tTup, tCons, tC, tDrop, tIfS, tTest, tOp, tB, tNot]
        refine callS w4 (ea_cons (ev_var (S := (rLst (rLst rInt)).s K table) rfl (Sv.mono _ x4 (Sv.mono _ x1 z0))) ea_nil) (al_p (fun _ z => z) al_nil) e6 (fun cls d B7 H7 x7 w7 hx => ?_)
        cases hx9 : xIs "BadPlace" "place" r5 with
        | some n8 =>
          replace hm := xM_some hx9 hm
          obtain rfl := xIs_eq hx9
          obtain ⟨rfl, dd11, rfl, hd10⟩ := hx
          refine wH_noA T.x_BadPlace_BadTolls ?_
          refine wH_yes T.x_BadPlace_TiedError (fun a12 na13 => ?_)
          refine s_asg w7 ((ev_tpl (R := rTag) (xs := [tg_refused]) (ea_cons (ev_tag tg_refused) ea_nil) (by show 1 ≤ 1000; decide)).le (s_inl (R := (rTpl rTag)) (R' := (rT4 rTag rInt rBool rBool)))) (fun v_15 B14 H14 x14 w14 h16 => ?_)
          try dsimp only [goneE]
          refine s_ret w14 (ev_var (S := (rEi (rTpl rTag) (rT4 rTag rInt rBool rBool)).s K (Sum.inl [tg_refused])) rfl h16) (fun vv B17 H17 x17 w17 hv => ?_)
          cases hm
          exact k _ _ _ w17.st w17.ex ((imm_Ei (imm_tpl (imm_flat _)) (imm_T4 (imm_flat _) (imm_flat _) (imm_flat _) (imm_flat _))) _ _ _ _ _ hv)
        | none =>
          replace hm := xM_none hx9 hm
          cases hx19 : xIs "BadSize" "size" r5 with
          | some n18 =>
            replace hm := xM_some hx19 hm
            obtain rfl := xIs_eq hx19
            obtain ⟨rfl, dd21, rfl, hd20⟩ := hx
            refine wH_noA T.x_BadSize_BadTolls ?_
            refine wH_yes T.x_BadSize_TiedError (fun a22 na23 => ?_)
            refine s_asg w7 ((ev_tpl (R := rTag) (xs := [tg_refused]) (ea_cons (ev_tag tg_refused) ea_nil) (by show 1 ≤ 1000; decide)).le (s_inl (R := (rTpl rTag)) (R' := (rT4 rTag rInt rBool rBool)))) (fun v_25 B24 H24 x24 w24 h26 => ?_)
            try dsimp only [goneE]
            refine s_ret w24 (ev_var (S := (rEi (rTpl rTag) (rT4 rTag rInt rBool rBool)).s K (Sum.inl [tg_refused])) rfl h26) (fun vv B27 H27 x27 w27 hv => ?_)
            cases hm
            exact k _ _ _ w27.st w27.ex ((imm_Ei (imm_tpl (imm_flat _)) (imm_T4 (imm_flat _) (imm_flat _) (imm_flat _) (imm_flat _))) _ _ _ _ _ hv)
          | none =>
            replace hm := xM_none hx19 hm
            cases hx29 : xIs "BadNumber" "number" r5 with
            | some n28 =>
              replace hm := xM_some hx29 hm
              obtain rfl := xIs_eq hx29
              obtain ⟨rfl, dd31, rfl, hd30⟩ := hx
              refine wH_noA T.x_BadNumber_BadTolls ?_
              refine wH_yes T.x_BadNumber_TiedError (fun a32 na33 => ?_)
              refine s_asg w7 ((ev_tpl (R := rTag) (xs := [tg_refused]) (ea_cons (ev_tag tg_refused) ea_nil) (by show 1 ≤ 1000; decide)).le (s_inl (R := (rTpl rTag)) (R' := (rT4 rTag rInt rBool rBool)))) (fun v_35 B34 H34 x34 w34 h36 => ?_)
              try dsimp only [goneE]
              refine s_ret w34 (ev_var (S := (rEi (rTpl rTag) (rT4 rTag rInt rBool rBool)).s K (Sum.inl [tg_refused])) rfl h36) (fun vv B37 H37 x37 w37 hv => ?_)
              cases hm
              exact k _ _ _ w37.st w37.ex ((imm_Ei (imm_tpl (imm_flat _)) (imm_T4 (imm_flat _) (imm_flat _) (imm_flat _) (imm_flat _))) _ _ _ _ _ hv)
            | none =>
              replace hm := xM_none hx29 hm
              cases hx39 : xIs "BadTolls" "place" r5 with
              | some n38 =>
                replace hm := xM_some hx39 hm
                obtain rfl := xIs_eq hx39
                obtain ⟨rfl, dd41, rfl, hd40⟩ := hx
                refine wH_yesA T.x_BadTolls_BadTolls (fun a42 na43 => ?_)
                refine s_asg w7 ((ev_T4 (ea_cons (ev_tag tg_tolls) (ea_cons (ev_fld (C := He.ga K "BadTolls") (ev_var (S := SA a42) rfl rfl) hd40) (ea_cons (ev_xE (ev_var (S := SA a42) rfl rfl) hd40 T.k_BadTolls_TiedError) (ea_cons (ev_xT (cs := [He.ga K "BadPlace", He.ga K "BadPlan", He.ga K "BadNumber", He.ga K "BadSize"]) (ev_var (S := SA a42) rfl rfl) (ea_cons (ev_c fun _ => rfl) (ea_cons (ev_c fun _ => rfl) (ea_cons (ev_c fun _ => rfl) (ea_cons (ev_c fun _ => rfl) ea_nil)))) (by show 4 ≤ 1000; decide) hd40 T.kt_BadTolls) ea_nil))))).le (s_inr (R := (rTpl rTag)) (R' := (rT4 rTag rInt rBool rBool)))) (fun v_45 B44 H44 x44 w44 h46 => ?_)
                try dsimp only [goneE]
                refine s_ret w44 (ev_var (S := (rEi (rTpl rTag) (rT4 rTag rInt rBool rBool)).s K (Sum.inr (tg_tolls, n38, true, false))) rfl h46) (fun vv B47 H47 x47 w47 hv => ?_)
                cases hm
                exact k _ _ _ w47.st w47.ex ((imm_Ei (imm_tpl (imm_flat _)) (imm_T4 (imm_flat _) (imm_flat _) (imm_flat _) (imm_flat _))) _ _ _ _ _ hv)
              | none =>
                replace hm := xM_none hx39 hm
                cases hx49 : xIs "BadPlan" "place" r5 with
                | some n48 =>
                  replace hm := xM_some hx49 hm
                  obtain rfl := xIs_eq hx49
                  obtain ⟨rfl, dd51, rfl, hd50⟩ := hx
                  refine wH_noA T.x_BadPlan_BadTolls ?_
                  refine wH_yes T.x_BadPlan_TiedError (fun a52 na53 => ?_)
                  refine s_asg w7 ((ev_tpl (R := rTag) (xs := [tg_refused]) (ea_cons (ev_tag tg_refused) ea_nil) (by show 1 ≤ 1000; decide)).le (s_inl (R := (rTpl rTag)) (R' := (rT4 rTag rInt rBool rBool)))) (fun v_55 B54 H54 x54 w54 h56 => ?_)
                  try dsimp only [goneE]
                  refine s_ret w54 (ev_var (S := (rEi (rTpl rTag) (rT4 rTag rInt rBool rBool)).s K (Sum.inl [tg_refused])) rfl h56) (fun vv B57 H57 x57 w57 hv => ?_)
                  cases hm
                  exact k _ _ _ w57.st w57.ex ((imm_Ei (imm_tpl (imm_flat _)) (imm_T4 (imm_flat _) (imm_flat _) (imm_flat _) (imm_flat _))) _ _ _ _ _ hv)
                | none =>
                  replace hm := xM_none hx49 hm
                  cases hm
      | ok r5 =>
        try dsimp only
        refine s_if w4 (et_test (ev_notN (((ev_callSok (g := table) (ea_cons (ev_var (S := (rLst (rLst rInt)).s K table) rfl (Sv.mono _ x4 (Sv.mono _ x1 z0))) ea_nil) (al_p (fun _ z => z) al_nil) e6).le g_s).le non_opt) nn_int)) (fun hb B58 H58 x58 w58 => ?_) (fun hb B58 H58 x58 w58 => ?_)
        · have hm := it hb hm
          refine s_asg w58 ((ev_tpl (R := rTag) (xs := [tg_other]) (ea_cons (ev_tag tg_other) ea_nil) (by show 1 ≤ 1000; decide)).le (s_inl (R := (rTpl rTag)) (R' := (rT4 rTag rInt rBool rBool)))) (fun v_60 B59 H59 x59 w59 h61 => ?_)
          refine s_ret w59 (ev_var (S := (rEi (rTpl rTag) (rT4 rTag rInt rBool rBool)).s K (Sum.inl [tg_other])) rfl h61) (fun vv B62 H62 x62 w62 hv => ?_)
          cases hm
          exact k _ _ _ w62.st w62.ex ((imm_Ei (imm_tpl (imm_flat _)) (imm_T4 (imm_flat _) (imm_flat _) (imm_flat _) (imm_flat _))) _ _ _ _ _ hv)
        · have hm := ie hb hm
          refine s_ret w58 (ev_var (S := (rEi (rTpl rTag) (rT4 rTag rInt rBool rBool)).s K (Sum.inl [tg_let])) rfl (Sv.mono _ x58 (Sv.mono _ x4 h3))) (fun vv B63 H63 x63 w63 hv => ?_)
          cases hm
          exact k _ _ _ w63.st w63.ex ((imm_Ei (imm_tpl (imm_flat _)) (imm_T4 (imm_flat _) (imm_flat _) (imm_flat _) (imm_flat _))) _ _ _ _ _ hv)
    · have hm := ie hb hm
      try dsimp only
      refine s_if w4 (et_test (ev_eqI (ev_var (S := rInt.s K which) rfl (Sv.mono _ x4 (Sv.mono _ x1 z1))) ev_int)) (fun hb B64 H64 x64 w64 => ?_) (fun hb B64 H64 x64 w64 => ?_)
      · have hm := it hb hm
        obtain ⟨r65, e66, hm⟩ := ob hm
        cases r65 with
        | error r65 =>
          try dsimp only [tAsg, tTup, tCons, tC, tDrop, tIfS, tTest, tOp, tB, tNot]
          refine callS w64 (ea_cons (ev_var (S := (rLst (rLst rInt)).s K table) rfl (Sv.mono _ x64 (Sv.mono _ x4 (Sv.mono _ x1 z0)))) (ea_cons (ev_neg ev_int) (ea_cons (ev_neg ev_int) ea_nil))) (al_p (fun _ z => z) (al_p (fun _ z => z) (al_p (fun _ z => z) al_nil))) e66 (fun cls d B67 H67 x67 w67 hx => ?_)
          cases hx69 : xIs "BadPlace" "place" r65 with
          | some n68 =>
            replace hm := xM_some hx69 hm
            obtain rfl := xIs_eq hx69
            obtain ⟨rfl, dd71, rfl, hd70⟩ := hx
            refine wH_noA T.x_BadPlace_BadTolls ?_
            refine wH_yes T.x_BadPlace_TiedError (fun a72 na73 => ?_)
            refine s_asg w67 ((ev_tpl (R := rTag) (xs := [tg_refused]) (ea_cons (ev_tag tg_refused) ea_nil) (by show 1 ≤ 1000; decide)).le (s_inl (R := (rTpl rTag)) (R' := (rT4 rTag rInt rBool rBool)))) (fun v_75 B74 H74 x74 w74 h76 => ?_)
            try dsimp only [goneE]
            refine s_ret w74 (ev_var (S := (rEi (rTpl rTag) (rT4 rTag rInt rBool rBool)).s K (Sum.inl [tg_refused])) rfl h76) (fun vv B77 H77 x77 w77 hv => ?_)
            cases hm
            exact k _ _ _ w77.st w77.ex ((imm_Ei (imm_tpl (imm_flat _)) (imm_T4 (imm_flat _) (imm_flat _) (imm_flat _) (imm_flat _))) _ _ _ _ _ hv)
          | none =>
            replace hm := xM_none hx69 hm
            cases hx79 : xIs "BadSize" "size" r65 with
            | some n78 =>
              replace hm := xM_some hx79 hm
              obtain rfl := xIs_eq hx79
              obtain ⟨rfl, dd81, rfl, hd80⟩ := hx
              refine wH_noA T.x_BadSize_BadTolls ?_
              refine wH_yes T.x_BadSize_TiedError (fun a82 na83 => ?_)
              refine s_asg w67 ((ev_tpl (R := rTag) (xs := [tg_refused]) (ea_cons (ev_tag tg_refused) ea_nil) (by show 1 ≤ 1000; decide)).le (s_inl (R := (rTpl rTag)) (R' := (rT4 rTag rInt rBool rBool)))) (fun v_85 B84 H84 x84 w84 h86 => ?_)
              try dsimp only [goneE]
              refine s_ret w84 (ev_var (S := (rEi (rTpl rTag) (rT4 rTag rInt rBool rBool)).s K (Sum.inl [tg_refused])) rfl h86) (fun vv B87 H87 x87 w87 hv => ?_)
              cases hm
              exact k _ _ _ w87.st w87.ex ((imm_Ei (imm_tpl (imm_flat _)) (imm_T4 (imm_flat _) (imm_flat _) (imm_flat _) (imm_flat _))) _ _ _ _ _ hv)
            | none =>
              replace hm := xM_none hx79 hm
              cases hx89 : xIs "BadNumber" "number" r65 with
              | some n88 =>
                replace hm := xM_some hx89 hm
                obtain rfl := xIs_eq hx89
                obtain ⟨rfl, dd91, rfl, hd90⟩ := hx
                refine wH_noA T.x_BadNumber_BadTolls ?_
                refine wH_yes T.x_BadNumber_TiedError (fun a92 na93 => ?_)
                refine s_asg w67 ((ev_tpl (R := rTag) (xs := [tg_refused]) (ea_cons (ev_tag tg_refused) ea_nil) (by show 1 ≤ 1000; decide)).le (s_inl (R := (rTpl rTag)) (R' := (rT4 rTag rInt rBool rBool)))) (fun v_95 B94 H94 x94 w94 h96 => ?_)
                try dsimp only [goneE]
                refine s_ret w94 (ev_var (S := (rEi (rTpl rTag) (rT4 rTag rInt rBool rBool)).s K (Sum.inl [tg_refused])) rfl h96) (fun vv B97 H97 x97 w97 hv => ?_)
                cases hm
                exact k _ _ _ w97.st w97.ex ((imm_Ei (imm_tpl (imm_flat _)) (imm_T4 (imm_flat _) (imm_flat _) (imm_flat _) (imm_flat _))) _ _ _ _ _ hv)
              | none =>
                replace hm := xM_none hx89 hm
                cases hx99 : xIs "BadTolls" "place" r65 with
                | some n98 =>
                  replace hm := xM_some hx99 hm
                  obtain rfl := xIs_eq hx99
                  obtain ⟨rfl, dd101, rfl, hd100⟩ := hx
                  refine wH_yesA T.x_BadTolls_BadTolls (fun a102 na103 => ?_)
                  refine s_asg w67 ((ev_T4 (ea_cons (ev_tag tg_tolls) (ea_cons (ev_fld (C := He.ga K "BadTolls") (ev_var (S := SA a102) rfl rfl) hd100) (ea_cons (ev_xE (ev_var (S := SA a102) rfl rfl) hd100 T.k_BadTolls_TiedError) (ea_cons (ev_xT (cs := [He.ga K "BadPlace", He.ga K "BadPlan", He.ga K "BadNumber", He.ga K "BadSize"]) (ev_var (S := SA a102) rfl rfl) (ea_cons (ev_c fun _ => rfl) (ea_cons (ev_c fun _ => rfl) (ea_cons (ev_c fun _ => rfl) (ea_cons (ev_c fun _ => rfl) ea_nil)))) (by show 4 ≤ 1000; decide) hd100 T.kt_BadTolls) ea_nil))))).le (s_inr (R := (rTpl rTag)) (R' := (rT4 rTag rInt rBool rBool)))) (fun v_105 B104 H104 x104 w104 h106 => ?_)
                  try dsimp only [goneE]
                  refine s_ret w104 (ev_var (S := (rEi (rTpl rTag) (rT4 rTag rInt rBool rBool)).s K (Sum.inr (tg_tolls, n98, true, false))) rfl h106) (fun vv B107 H107 x107 w107 hv => ?_)
                  cases hm
                  exact k _ _ _ w107.st w107.ex ((imm_Ei (imm_tpl (imm_flat _)) (imm_T4 (imm_flat _) (imm_flat _) (imm_flat _) (imm_flat _))) _ _ _ _ _ hv)
                | none =>
                  replace hm := xM_none hx99 hm
                  cases hx109 : xIs "BadPlan" "place" r65 with
                  | some n108 =>
                    replace hm := xM_some hx109 hm
                    obtain rfl := xIs_eq hx109
                    obtain ⟨rfl, dd111, rfl, hd110⟩ := hx
                    refine wH_noA T.x_BadPlan_BadTolls ?_
                    refine wH_yes T.x_BadPlan_TiedError (fun a112 na113 => ?_)
                    refine s_asg w67 ((ev_tpl (R := rTag) (xs := [tg_refused]) (ea_cons (ev_tag tg_refused) ea_nil) (by show 1 ≤ 1000; decide)).le (s_inl (R := (rTpl rTag)) (R' := (rT4 rTag rInt rBool rBool)))) (fun v_115 B114 H114 x114 w114 h116 => ?_)
                    try dsimp only [goneE]
                    refine s_ret w114 (ev_var (S := (rEi (rTpl rTag) (rT4 rTag rInt rBool rBool)).s K (Sum.inl [tg_refused])) rfl h116) (fun vv B117 H117 x117 w117 hv => ?_)
                    cases hm
                    exact k _ _ _ w117.st w117.ex ((imm_Ei (imm_tpl (imm_flat _)) (imm_T4 (imm_flat _) (imm_flat _) (imm_flat _) (imm_flat _))) _ _ _ _ _ hv)
                  | none =>
                    replace hm := xM_none hx109 hm
                    cases hm
        | ok r65 =>
          refine s_drop w64 ((ev_callSok (g := (table, (-(5 : Int)), (-(5 : Int)))) (ea_cons (ev_var (S := (rLst (rLst rInt)).s K table) rfl (Sv.mono _ x64 (Sv.mono _ x4 (Sv.mono _ x1 z0)))) (ea_cons (ev_neg ev_int) (ea_cons (ev_neg ev_int) ea_nil))) (al_p (fun _ z => z) (al_p (fun _ z => z) (al_p (fun _ z => z) al_nil))) e66).le g_s) (fun B118 H118 x118 w118 => ?_)
          refine s_ret w118 (ev_var (S := (rEi (rTpl rTag) (rT4 rTag rInt rBool rBool)).s K (Sum.inl [tg_let])) rfl (Sv.mono _ x118 (Sv.mono _ x64 (Sv.mono _ x4 h3)))) (fun vv B119 H119 x119 w119 hv => ?_)
          cases hm
          exact k _ _ _ w119.st w119.ex ((imm_Ei (imm_tpl (imm_flat _)) (imm_T4 (imm_flat _) (imm_flat _) (imm_flat _) (imm_flat _))) _ _ _ _ _ hv)
      · have hm := ie hb hm
        try dsimp only
        refine s_if w64 (et_test (ev_eqI (ev_var (S := rInt.s K which) rfl (Sv.mono _ x64 (Sv.mono _ x4 (Sv.mono _ x1 z1)))) ev_int)) (fun hb B120 H120 x120 w120 => ?_) (fun hb B120 H120 x120 w120 => ?_)
        · have hm := it hb hm
          obtain ⟨r121, e122, hm⟩ := ob hm
          cases r121 with
          | error r121 =>
            try dsimp only [tAsg, tTup, tCons, tC, tDrop, tIfS, tTest, tOp, tB, tNot]
            refine callS w120 (ea_cons (ev_var (S := (rLst (rLst rInt)).s K table) rfl (Sv.mono _ x120 (Sv.mono _ x64 (Sv.mono _ x4 (Sv.mono _ x1 z0))))) (ea_cons (ev_neg ev_int) (ea_cons (ev_neg ev_int) (ea_cons ev_int ea_nil)))) (al_p (fun _ z => z) (al_p (fun _ z => z) (al_p (fun _ z => z) (al_p (fun _ z => z) al_nil)))) e122 (fun cls d B123 H123 x123 w123 hx => ?_)
            cases hx125 : xIs "BadPlace" "place" r121 with
            | some n124 =>
              replace hm := xM_some hx125 hm
              obtain rfl := xIs_eq hx125
              obtain ⟨rfl, dd127, rfl, hd126⟩ := hx
              refine wH_noA T.x_BadPlace_BadTolls ?_
              refine wH_yes T.x_BadPlace_TiedError (fun a128 na129 => ?_)
              refine s_asg w123 ((ev_tpl (R := rTag) (xs := [tg_refused]) (ea_cons (ev_tag tg_refused) ea_nil) (by show 1 ≤ 1000; decide)).le (s_inl (R := (rTpl rTag)) (R' := (rT4 rTag rInt rBool rBool)))) (fun v_131 B130 H130 x130 w130 h132 => ?_)
              try dsimp only [goneE]
              refine s_ret w130 (ev_var (S := (rEi (rTpl rTag) (rT4 rTag rInt rBool rBool)).s K (Sum.inl [tg_refused])) rfl h132) (fun vv B133 H133 x133 w133 hv => ?_)
              cases hm
              exact k _ _ _ w133.st w133.ex ((imm_Ei (imm_tpl (imm_flat _)) (imm_T4 (imm_flat _) (imm_flat _) (imm_flat _) (imm_flat _))) _ _ _ _ _ hv)
            | none =>
              replace hm := xM_none hx125 hm
              cases hx135 : xIs "BadSize" "size" r121 with
              | some n134 =>
                replace hm := xM_some hx135 hm
                obtain rfl := xIs_eq hx135
                obtain ⟨rfl, dd137, rfl, hd136⟩ := hx
                refine wH_noA T.x_BadSize_BadTolls ?_
                refine wH_yes T.x_BadSize_TiedError (fun a138 na139 => ?_)
                refine s_asg w123 ((ev_tpl (R := rTag) (xs := [tg_refused]) (ea_cons (ev_tag tg_refused) ea_nil) (by show 1 ≤ 1000; decide)).le (s_inl (R := (rTpl rTag)) (R' := (rT4 rTag rInt rBool rBool)))) (fun v_141 B140 H140 x140 w140 h142 => ?_)
                try dsimp only [goneE]
                refine s_ret w140 (ev_var (S := (rEi (rTpl rTag) (rT4 rTag rInt rBool rBool)).s K (Sum.inl [tg_refused])) rfl h142) (fun vv B143 H143 x143 w143 hv => ?_)
                cases hm
                exact k _ _ _ w143.st w143.ex ((imm_Ei (imm_tpl (imm_flat _)) (imm_T4 (imm_flat _) (imm_flat _) (imm_flat _) (imm_flat _))) _ _ _ _ _ hv)
              | none =>
                replace hm := xM_none hx135 hm
                cases hx145 : xIs "BadNumber" "number" r121 with
                | some n144 =>
                  replace hm := xM_some hx145 hm
                  obtain rfl := xIs_eq hx145
                  obtain ⟨rfl, dd147, rfl, hd146⟩ := hx
                  refine wH_noA T.x_BadNumber_BadTolls ?_
                  refine wH_yes T.x_BadNumber_TiedError (fun a148 na149 => ?_)
                  refine s_asg w123 ((ev_tpl (R := rTag) (xs := [tg_refused]) (ea_cons (ev_tag tg_refused) ea_nil) (by show 1 ≤ 1000; decide)).le (s_inl (R := (rTpl rTag)) (R' := (rT4 rTag rInt rBool rBool)))) (fun v_151 B150 H150 x150 w150 h152 => ?_)
                  try dsimp only [goneE]
                  refine s_ret w150 (ev_var (S := (rEi (rTpl rTag) (rT4 rTag rInt rBool rBool)).s K (Sum.inl [tg_refused])) rfl h152) (fun vv B153 H153 x153 w153 hv => ?_)
                  cases hm
                  exact k _ _ _ w153.st w153.ex ((imm_Ei (imm_tpl (imm_flat _)) (imm_T4 (imm_flat _) (imm_flat _) (imm_flat _) (imm_flat _))) _ _ _ _ _ hv)
                | none =>
                  replace hm := xM_none hx145 hm
                  cases hx155 : xIs "BadTolls" "place" r121 with
                  | some n154 =>
                    replace hm := xM_some hx155 hm
                    obtain rfl := xIs_eq hx155
                    obtain ⟨rfl, dd157, rfl, hd156⟩ := hx
                    refine wH_yesA T.x_BadTolls_BadTolls (fun a158 na159 => ?_)
                    refine s_asg w123 ((ev_T4 (ea_cons (ev_tag tg_tolls) (ea_cons (ev_fld (C := He.ga K "BadTolls") (ev_var (S := SA a158) rfl rfl) hd156) (ea_cons (ev_xE (ev_var (S := SA a158) rfl rfl) hd156 T.k_BadTolls_TiedError) (ea_cons (ev_xT (cs := [He.ga K "BadPlace", He.ga K "BadPlan", He.ga K "BadNumber", He.ga K "BadSize"]) (ev_var (S := SA a158) rfl rfl) (ea_cons (ev_c fun _ => rfl) (ea_cons (ev_c fun _ => rfl) (ea_cons (ev_c fun _ => rfl) (ea_cons (ev_c fun _ => rfl) ea_nil)))) (by show 4 ≤ 1000; decide) hd156 T.kt_BadTolls) ea_nil))))).le (s_inr (R := (rTpl rTag)) (R' := (rT4 rTag rInt rBool rBool)))) (fun v_161 B160 H160 x160 w160 h162 => ?_)
                    try dsimp only [goneE]
                    refine s_ret w160 (ev_var (S := (rEi (rTpl rTag) (rT4 rTag rInt rBool rBool)).s K (Sum.inr (tg_tolls, n154, true, false))) rfl h162) (fun vv B163 H163 x163 w163 hv => ?_)
                    cases hm
                    exact k _ _ _ w163.st w163.ex ((imm_Ei (imm_tpl (imm_flat _)) (imm_T4 (imm_flat _) (imm_flat _) (imm_flat _) (imm_flat _))) _ _ _ _ _ hv)
                  | none =>
                    replace hm := xM_none hx155 hm
                    cases hx165 : xIs "BadPlan" "place" r121 with
                    | some n164 =>
                      replace hm := xM_some hx165 hm
                      obtain rfl := xIs_eq hx165
                      obtain ⟨rfl, dd167, rfl, hd166⟩ := hx
                      refine wH_noA T.x_BadPlan_BadTolls ?_
                      refine wH_yes T.x_BadPlan_TiedError (fun a168 na169 => ?_)
                      refine s_asg w123 ((ev_tpl (R := rTag) (xs := [tg_refused]) (ea_cons (ev_tag tg_refused) ea_nil) (by show 1 ≤ 1000; decide)).le (s_inl (R := (rTpl rTag)) (R' := (rT4 rTag rInt rBool rBool)))) (fun v_171 B170 H170 x170 w170 h172 => ?_)
                      try dsimp only [goneE]
                      refine s_ret w170 (ev_var (S := (rEi (rTpl rTag) (rT4 rTag rInt rBool rBool)).s K (Sum.inl [tg_refused])) rfl h172) (fun vv B173 H173 x173 w173 hv => ?_)
                      cases hm
                      exact k _ _ _ w173.st w173.ex ((imm_Ei (imm_tpl (imm_flat _)) (imm_T4 (imm_flat _) (imm_flat _) (imm_flat _) (imm_flat _))) _ _ _ _ _ hv)
                    | none =>
                      replace hm := xM_none hx165 hm
                      cases hm
          | ok r121 =>
            refine s_drop w120 (ev_callSok (g := (table, (-(5 : Int)), (-(5 : Int)), (0 : Int))) (ea_cons (ev_var (S := (rLst (rLst rInt)).s K table) rfl (Sv.mono _ x120 (Sv.mono _ x64 (Sv.mono _ x4 (Sv.mono _ x1 z0))))) (ea_cons (ev_neg ev_int) (ea_cons (ev_neg ev_int) (ea_cons ev_int ea_nil)))) (al_p (fun _ z => z) (al_p (fun _ z => z) (al_p (fun _ z => z) (al_p (fun _ z => z) al_nil)))) e122) (fun B174 H174 x174 w174 => ?_)
            refine s_ret w174 (ev_var (S := (rEi (rTpl rTag) (rT4 rTag rInt rBool rBool)).s K (Sum.inl [tg_let])) rfl (Sv.mono _ x174 (Sv.mono _ x120 (Sv.mono _ x64 (Sv.mono _ x4 h3))))) (fun vv B175 H175 x175 w175 hv => ?_)
            cases hm
            exact k _ _ _ w175.st w175.ex ((imm_Ei (imm_tpl (imm_flat _)) (imm_T4 (imm_flat _) (imm_flat _) (imm_flat _) (imm_flat _))) _ _ _ _ _ hv)
        · have hm := ie hb hm
          try dsimp only
          refine s_if w120 (et_test (ev_eqI (ev_var (S := rInt.s K which) rfl (Sv.mono _ x120 (Sv.mono _ x64 (Sv.mono _ x4 (Sv.mono _ x1 z1))))) ev_int)) (fun hb B176 H176 x176 w176 => ?_) (fun hb B176 H176 x176 w176 => ?_)
          · have hm := it hb hm
            obtain ⟨r177, e178, hm⟩ := ob hm
            cases r177 with
            | error r177 =>
              try dsimp only [tAsg, tTup, tCons, tC, tDrop, tIfS, tTest, tOp, tB, tNot]
              refine callS w176 (ea_cons (ev_var (S := (rLst (rLst rInt)).s K table) rfl (Sv.mono _ x176 (Sv.mono _ x120 (Sv.mono _ x64 (Sv.mono _ x4 (Sv.mono _ x1 z0)))))) (ea_cons (ev_lst (R := rInt) (xs := []) ea_nil (by decide)) ea_nil)) (al_p (fun _ z => z) (al_le sn_s (fun _ z => z) al_nil)) e178 (fun cls d B179 H179 x179 w179 hx => ?_)
              cases hx181 : xIs "BadPlace" "place" r177 with
              | some n180 =>
                replace hm := xM_some hx181 hm
                obtain rfl := xIs_eq hx181
                obtain ⟨rfl, dd183, rfl, hd182⟩ := hx
                refine wH_noA T.x_BadPlace_BadTolls ?_
                refine wH_yes T.x_BadPlace_TiedError (fun a184 na185 => ?_)
                refine s_asg w179 ((ev_tpl (R := rTag) (xs := [tg_refused]) (ea_cons (ev_tag tg_refused) ea_nil) (by show 1 ≤ 1000; decide)).le (s_inl (R := (rTpl rTag)) (R' := (rT4 rTag rInt rBool rBool)))) (fun v_187 B186 H186 x186 w186 h188 => ?_)
                try dsimp only [goneE]
                refine s_ret w186 (ev_var (S := (rEi (rTpl rTag) (rT4 rTag rInt rBool rBool)).s K (Sum.inl [tg_refused])) rfl h188) (fun vv B189 H189 x189 w189 hv => ?_)
                cases hm
                exact k _ _ _ w189.st w189.ex ((imm_Ei (imm_tpl (imm_flat _)) (imm_T4 (imm_flat _) (imm_flat _) (imm_flat _) (imm_flat _))) _ _ _ _ _ hv)
              | none =>
                replace hm := xM_none hx181 hm
                cases hx191 : xIs "BadSize" "size" r177 with
                | some n190 =>
                  replace hm := xM_some hx191 hm
                  obtain rfl := xIs_eq hx191
                  obtain ⟨rfl, dd193, rfl, hd192⟩ := hx
                  refine wH_noA T.x_BadSize_BadTolls ?_
                  refine wH_yes T.x_BadSize_TiedError (fun a194 na195 => ?_)
                  refine s_asg w179 ((ev_tpl (R := rTag) (xs := [tg_refused]) (ea_cons (ev_tag tg_refused) ea_nil) (by show 1 ≤ 1000; decide)).le (s_inl (R := (rTpl rTag)) (R' := (rT4 rTag rInt rBool rBool)))) (fun v_197 B196 H196 x196 w196 h198 => ?_)
                  try dsimp only [goneE]
                  refine s_ret w196 (ev_var (S := (rEi (rTpl rTag) (rT4 rTag rInt rBool rBool)).s K (Sum.inl [tg_refused])) rfl h198) (fun vv B199 H199 x199 w199 hv => ?_)
                  cases hm
                  exact k _ _ _ w199.st w199.ex ((imm_Ei (imm_tpl (imm_flat _)) (imm_T4 (imm_flat _) (imm_flat _) (imm_flat _) (imm_flat _))) _ _ _ _ _ hv)
                | none =>
                  replace hm := xM_none hx191 hm
                  cases hx201 : xIs "BadNumber" "number" r177 with
                  | some n200 =>
                    replace hm := xM_some hx201 hm
                    obtain rfl := xIs_eq hx201
                    obtain ⟨rfl, dd203, rfl, hd202⟩ := hx
                    refine wH_noA T.x_BadNumber_BadTolls ?_
                    refine wH_yes T.x_BadNumber_TiedError (fun a204 na205 => ?_)
                    refine s_asg w179 ((ev_tpl (R := rTag) (xs := [tg_refused]) (ea_cons (ev_tag tg_refused) ea_nil) (by show 1 ≤ 1000; decide)).le (s_inl (R := (rTpl rTag)) (R' := (rT4 rTag rInt rBool rBool)))) (fun v_207 B206 H206 x206 w206 h208 => ?_)
                    try dsimp only [goneE]
                    refine s_ret w206 (ev_var (S := (rEi (rTpl rTag) (rT4 rTag rInt rBool rBool)).s K (Sum.inl [tg_refused])) rfl h208) (fun vv B209 H209 x209 w209 hv => ?_)
                    cases hm
                    exact k _ _ _ w209.st w209.ex ((imm_Ei (imm_tpl (imm_flat _)) (imm_T4 (imm_flat _) (imm_flat _) (imm_flat _) (imm_flat _))) _ _ _ _ _ hv)
                  | none =>
                    replace hm := xM_none hx201 hm
                    cases hx211 : xIs "BadTolls" "place" r177 with
                    | some n210 =>
                      replace hm := xM_some hx211 hm
                      obtain rfl := xIs_eq hx211
                      obtain ⟨rfl, dd213, rfl, hd212⟩ := hx
                      refine wH_yesA T.x_BadTolls_BadTolls (fun a214 na215 => ?_)
                      refine s_asg w179 ((ev_T4 (ea_cons (ev_tag tg_tolls) (ea_cons (ev_fld (C := He.ga K "BadTolls") (ev_var (S := SA a214) rfl rfl) hd212) (ea_cons (ev_xE (ev_var (S := SA a214) rfl rfl) hd212 T.k_BadTolls_TiedError) (ea_cons (ev_xT (cs := [He.ga K "BadPlace", He.ga K "BadPlan", He.ga K "BadNumber", He.ga K "BadSize"]) (ev_var (S := SA a214) rfl rfl) (ea_cons (ev_c fun _ => rfl) (ea_cons (ev_c fun _ => rfl) (ea_cons (ev_c fun _ => rfl) (ea_cons (ev_c fun _ => rfl) ea_nil)))) (by show 4 ≤ 1000; decide) hd212 T.kt_BadTolls) ea_nil))))).le (s_inr (R := (rTpl rTag)) (R' := (rT4 rTag rInt rBool rBool)))) (fun v_217 B216 H216 x216 w216 h218 => ?_)
                      try dsimp only [goneE]
                      refine s_ret w216 (ev_var (S := (rEi (rTpl rTag) (rT4 rTag rInt rBool rBool)).s K (Sum.inr (tg_tolls, n210, true, false))) rfl h218) (fun vv B219 H219 x219 w219 hv => ?_)
                      cases hm
                      exact k _ _ _ w219.st w219.ex ((imm_Ei (imm_tpl (imm_flat _)) (imm_T4 (imm_flat _) (imm_flat _) (imm_flat _) (imm_flat _))) _ _ _ _ _ hv)
                    | none =>
                      replace hm := xM_none hx211 hm
                      cases hx221 : xIs "BadPlan" "place" r177 with
                      | some n220 =>
                        replace hm := xM_some hx221 hm
                        obtain rfl := xIs_eq hx221
                        obtain ⟨rfl, dd223, rfl, hd222⟩ := hx
                        refine wH_noA T.x_BadPlan_BadTolls ?_
                        refine wH_yes T.x_BadPlan_TiedError (fun a224 na225 => ?_)
                        refine s_asg w179 ((ev_tpl (R := rTag) (xs := [tg_refused]) (ea_cons (ev_tag tg_refused) ea_nil) (by show 1 ≤ 1000; decide)).le (s_inl (R := (rTpl rTag)) (R' := (rT4 rTag rInt rBool rBool)))) (fun v_227 B226 H226 x226 w226 h228 => ?_)
                        try dsimp only [goneE]
                        refine s_ret w226 (ev_var (S := (rEi (rTpl rTag) (rT4 rTag rInt rBool rBool)).s K (Sum.inl [tg_refused])) rfl h228) (fun vv B229 H229 x229 w229 hv => ?_)
                        cases hm
                        exact k _ _ _ w229.st w229.ex ((imm_Ei (imm_tpl (imm_flat _)) (imm_T4 (imm_flat _) (imm_flat _) (imm_flat _) (imm_flat _))) _ _ _ _ _ hv)
                      | none =>
                        replace hm := xM_none hx221 hm
                        cases hm
            | ok r177 =>
              refine s_drop w176 ((ev_callSok (g := (table, ([] : List Int))) (ea_cons (ev_var (S := (rLst (rLst rInt)).s K table) rfl (Sv.mono _ x176 (Sv.mono _ x120 (Sv.mono _ x64 (Sv.mono _ x4 (Sv.mono _ x1 z0)))))) (ea_cons (ev_lst (R := rInt) (xs := []) ea_nil (by decide)) ea_nil)) (al_p (fun _ z => z) (al_le sn_s (fun _ z => z) al_nil)) e178).le g_s) (fun B230 H230 x230 w230 => ?_)
              refine s_ret w230 (ev_var (S := (rEi (rTpl rTag) (rT4 rTag rInt rBool rBool)).s K (Sum.inl [tg_let])) rfl (Sv.mono _ x230 (Sv.mono _ x176 (Sv.mono _ x120 (Sv.mono _ x64 (Sv.mono _ x4 h3)))))) (fun vv B231 H231 x231 w231 hv => ?_)
              cases hm
              exact k _ _ _ w231.st w231.ex ((imm_Ei (imm_tpl (imm_flat _)) (imm_T4 (imm_flat _) (imm_flat _) (imm_flat _) (imm_flat _))) _ _ _ _ _ hv)
          · have hm := ie hb hm
            obtain ⟨r232, e233, hm⟩ := ob hm
            cases r232 with
            | error r232 =>
              try dsimp only [tAsg, tTup, tCons, tC, tDrop, tIfS, tTest, tOp, tB, tNot]
              refine callS w176 (ea_cons (ev_var (S := (rLst (rLst rInt)).s K table) rfl (Sv.mono _ x176 (Sv.mono _ x120 (Sv.mono _ x64 (Sv.mono _ x4 (Sv.mono _ x1 z0)))))) (ea_cons (ev_lst (R := rInt) (xs := [(-(5 : Int))]) (ea_cons (ev_neg ev_int) ea_nil) (by show 1 ≤ 1000; decide)) (ea_cons (ev_lst (R := (rT2 (rTpl rInt) rInt)) (xs := []) ea_nil (by decide)) ea_nil))) (al_p (fun _ z => z) (al_le sn_s (fun _ z => z) (al_le sn_s (fun _ z => z) al_nil))) e233 (fun cls d B234 H234 x234 w234 hx => ?_)
              cases hx236 : xIs "BadPlace" "place" r232 with
              | some n235 =>
                replace hm := xM_some hx236 hm
                obtain rfl := xIs_eq hx236
                obtain ⟨rfl, dd238, rfl, hd237⟩ := hx
                refine wH_noA T.x_BadPlace_BadTolls ?_
                refine wH_yes T.x_BadPlace_TiedError (fun a239 na240 => ?_)
                refine s_asg w234 ((ev_tpl (R := rTag) (xs := [tg_refused]) (ea_cons (ev_tag tg_refused) ea_nil) (by show 1 ≤ 1000; decide)).le (s_inl (R := (rTpl rTag)) (R' := (rT4 rTag rInt rBool rBool)))) (fun v_242 B241 H241 x241 w241 h243 => ?_)
                try dsimp only [goneE]
                refine s_ret w241 (ev_var (S := (rEi (rTpl rTag) (rT4 rTag rInt rBool rBool)).s K (Sum.inl [tg_refused])) rfl h243) (fun vv B244 H244 x244 w244 hv => ?_)
                cases hm
                exact k _ _ _ w244.st w244.ex ((imm_Ei (imm_tpl (imm_flat _)) (imm_T4 (imm_flat _) (imm_flat _) (imm_flat _) (imm_flat _))) _ _ _ _ _ hv)
              | none =>
                replace hm := xM_none hx236 hm
                cases hx246 : xIs "BadSize" "size" r232 with
                | some n245 =>
                  replace hm := xM_some hx246 hm
                  obtain rfl := xIs_eq hx246
                  obtain ⟨rfl, dd248, rfl, hd247⟩ := hx
                  refine wH_noA T.x_BadSize_BadTolls ?_
                  refine wH_yes T.x_BadSize_TiedError (fun a249 na250 => ?_)
                  refine s_asg w234 ((ev_tpl (R := rTag) (xs := [tg_refused]) (ea_cons (ev_tag tg_refused) ea_nil) (by show 1 ≤ 1000; decide)).le (s_inl (R := (rTpl rTag)) (R' := (rT4 rTag rInt rBool rBool)))) (fun v_252 B251 H251 x251 w251 h253 => ?_)
                  try dsimp only [goneE]
                  refine s_ret w251 (ev_var (S := (rEi (rTpl rTag) (rT4 rTag rInt rBool rBool)).s K (Sum.inl [tg_refused])) rfl h253) (fun vv B254 H254 x254 w254 hv => ?_)
                  cases hm
                  exact k _ _ _ w254.st w254.ex ((imm_Ei (imm_tpl (imm_flat _)) (imm_T4 (imm_flat _) (imm_flat _) (imm_flat _) (imm_flat _))) _ _ _ _ _ hv)
                | none =>
                  replace hm := xM_none hx246 hm
                  cases hx256 : xIs "BadNumber" "number" r232 with
                  | some n255 =>
                    replace hm := xM_some hx256 hm
                    obtain rfl := xIs_eq hx256
                    obtain ⟨rfl, dd258, rfl, hd257⟩ := hx
                    refine wH_noA T.x_BadNumber_BadTolls ?_
                    refine wH_yes T.x_BadNumber_TiedError (fun a259 na260 => ?_)
                    refine s_asg w234 ((ev_tpl (R := rTag) (xs := [tg_refused]) (ea_cons (ev_tag tg_refused) ea_nil) (by show 1 ≤ 1000; decide)).le (s_inl (R := (rTpl rTag)) (R' := (rT4 rTag rInt rBool rBool)))) (fun v_262 B261 H261 x261 w261 h263 => ?_)
                    try dsimp only [goneE]
                    refine s_ret w261 (ev_var (S := (rEi (rTpl rTag) (rT4 rTag rInt rBool rBool)).s K (Sum.inl [tg_refused])) rfl h263) (fun vv B264 H264 x264 w264 hv => ?_)
                    cases hm
                    exact k _ _ _ w264.st w264.ex ((imm_Ei (imm_tpl (imm_flat _)) (imm_T4 (imm_flat _) (imm_flat _) (imm_flat _) (imm_flat _))) _ _ _ _ _ hv)
                  | none =>
                    replace hm := xM_none hx256 hm
                    cases hx266 : xIs "BadTolls" "place" r232 with
                    | some n265 =>
                      replace hm := xM_some hx266 hm
                      obtain rfl := xIs_eq hx266
                      obtain ⟨rfl, dd268, rfl, hd267⟩ := hx
                      refine wH_yesA T.x_BadTolls_BadTolls (fun a269 na270 => ?_)
                      refine s_asg w234 ((ev_T4 (ea_cons (ev_tag tg_tolls) (ea_cons (ev_fld (C := He.ga K "BadTolls") (ev_var (S := SA a269) rfl rfl) hd267) (ea_cons (ev_xE (ev_var (S := SA a269) rfl rfl) hd267 T.k_BadTolls_TiedError) (ea_cons (ev_xT (cs := [He.ga K "BadPlace", He.ga K "BadPlan", He.ga K "BadNumber", He.ga K "BadSize"]) (ev_var (S := SA a269) rfl rfl) (ea_cons (ev_c fun _ => rfl) (ea_cons (ev_c fun _ => rfl) (ea_cons (ev_c fun _ => rfl) (ea_cons (ev_c fun _ => rfl) ea_nil)))) (by show 4 ≤ 1000; decide) hd267 T.kt_BadTolls) ea_nil))))).le (s_inr (R := (rTpl rTag)) (R' := (rT4 rTag rInt rBool rBool)))) (fun v_272 B271 H271 x271 w271 h273 => ?_)
                      try dsimp only [goneE]
                      refine s_ret w271 (ev_var (S := (rEi (rTpl rTag) (rT4 rTag rInt rBool rBool)).s K (Sum.inr (tg_tolls, n265, true, false))) rfl h273) (fun vv B274 H274 x274 w274 hv => ?_)
                      cases hm
                      exact k _ _ _ w274.st w274.ex ((imm_Ei (imm_tpl (imm_flat _)) (imm_T4 (imm_flat _) (imm_flat _) (imm_flat _) (imm_flat _))) _ _ _ _ _ hv)
                    | none =>
                      replace hm := xM_none hx266 hm
                      cases hx276 : xIs "BadPlan" "place" r232 with
                      | some n275 =>
                        replace hm := xM_some hx276 hm
                        obtain rfl := xIs_eq hx276
                        obtain ⟨rfl, dd278, rfl, hd277⟩ := hx
                        refine wH_noA T.x_BadPlan_BadTolls ?_
                        refine wH_yes T.x_BadPlan_TiedError (fun a279 na280 => ?_)
                        refine s_asg w234 ((ev_tpl (R := rTag) (xs := [tg_refused]) (ea_cons (ev_tag tg_refused) ea_nil) (by show 1 ≤ 1000; decide)).le (s_inl (R := (rTpl rTag)) (R' := (rT4 rTag rInt rBool rBool)))) (fun v_282 B281 H281 x281 w281 h283 => ?_)
                        try dsimp only [goneE]
                        refine s_ret w281 (ev_var (S := (rEi (rTpl rTag) (rT4 rTag rInt rBool rBool)).s K (Sum.inl [tg_refused])) rfl h283) (fun vv B284 H284 x284 w284 hv => ?_)
                        cases hm
                        exact k _ _ _ w284.st w284.ex ((imm_Ei (imm_tpl (imm_flat _)) (imm_T4 (imm_flat _) (imm_flat _) (imm_flat _) (imm_flat _))) _ _ _ _ _ hv)
                      | none =>
                        replace hm := xM_none hx276 hm
                        cases hm
            | ok r232 =>
              refine s_drop w176 ((ev_callSok (g := (table, [(-(5 : Int))], ([] : List ((List Int) × Int)))) (ea_cons (ev_var (S := (rLst (rLst rInt)).s K table) rfl (Sv.mono _ x176 (Sv.mono _ x120 (Sv.mono _ x64 (Sv.mono _ x4 (Sv.mono _ x1 z0)))))) (ea_cons (ev_lst (R := rInt) (xs := [(-(5 : Int))]) (ea_cons (ev_neg ev_int) ea_nil) (by show 1 ≤ 1000; decide)) (ea_cons (ev_lst (R := (rT2 (rTpl rInt) rInt)) (xs := []) ea_nil (by decide)) ea_nil))) (al_p (fun _ z => z) (al_le sn_s (fun _ z => z) (al_le sn_s (fun _ z => z) al_nil))) e233).le g_s) (fun B285 H285 x285 w285 => ?_)
              refine s_ret w285 (ev_var (S := (rEi (rTpl rTag) (rT4 rTag rInt rBool rBool)).s K (Sum.inl [tg_let])) rfl (Sv.mono _ x285 (Sv.mono _ x176 (Sv.mono _ x120 (Sv.mono _ x64 (Sv.mono _ x4 h3)))))) (fun vv B286 H286 x286 w286 hv => ?_)
              cases hm
              exact k _ _ _ w286.st w286.ex ((imm_Ei (imm_tpl (imm_flat _)) (imm_T4 (imm_flat _) (imm_flat _) (imm_flat _) (imm_flat _))) _ _ _ _ _ hv)
def m__law_tables_right : (List Int) × (List (List Int)) → Option (Bool × (List Int)) := fun (state, table) =>
  (m__law_bent_tolls (state, table)).bind fun (r1, state3) =>
  (m__law_copy r1).bind fun r7 =>
  (m__law_wrong_row r7).bind fun r12 =>
  (rngO (0 : Int) (5 : Int)).bind fun xs17 =>
  finK (fun (_ : Unit) => ((cond (decide (r1 = r7)) ((m__law_copy table).bind fun r68 => (m__law_table_told (r68, (0 : Int))).bind fun r70 => (inlO r70).bind fun t72 => some (decide (t72 = [tg_let]))) (some false)).bind fun b74 =>
  some (b74, state3))) (fun (tt : Bool × (List Int)) => some tt) (forL (fun (which20 : Int) (_ : Unit) => ((m__law_table_told (r1, which20)).bind fun r21 =>
  (cond (decide (r12 = (-(2 : Int)))) ((cond (decide (which20 = (0 : Int))) ((inlO r21).bind fun t26 => some (!decide (t26 = [tg_let]))) (some false)).bind fun b28 => some b28) (some false)).bind fun b30 =>
  cond b30 (some (.rt (false, state3))) ((cond (decide (r12 = (-(2 : Int)))) ((cond (decide ((0 : Int) < which20)) ((inlO r21).bind fun t34 => some (!decide (t34 = [tg_refused]))) (some false)).bind fun b36 => some b36) (some false)).bind fun b38 =>
  cond b38 (some (.rt (false, state3))) ((cond (decide ((-(2 : Int)) < r12)) ((inrO r21).bind fun t42 => (cond (!decide ((4 : Int) = (4 : Int))) (some true) ((inrO r21).bind fun t44 => (m__law_whole t44.2.1).bind fun r46 => (cond (!r46) (some true) ((inrO r21).bind fun t48 => (cond (!decide (t48.2.1 = r12)) (some true) ((inrO r21).bind fun t50 => (cond (!t50.2.2.1) (some true) ((inrO r21).bind fun t52 => some t52.2.2.2)).bind fun b54 => some b54)).bind fun b56 => some b56)).bind fun b58 => some b58)).bind fun b60 => some b60) (some false)).bind fun b62 =>
  cond b62 (some (.rt (false, state3))) (some (.nx ())))) : Option (Ctl Unit (Bool × (List Int))))) xs17 ())
def p__law_tables_right (K : Fg) : Sp := Pr1 K (fun (g : (List Int) × (List (List Int))) p => [SA p, (rLst (rLst rInt)).s K g.2]) (fun g => CL rInt K g.1) m__law_tables_right (fun e => CL rInt K e) rBool
abbrev N__law_tables_right : List Str := ["state", "table", "bent", "kept", "due", "which", "told"]
theorem sc__law_tables_right : FnScope N__law_tables_right ["state", "table"] (defScope s__law_tables_right) := ⟨rfl, rfl, rfl, by decide +kernel, rfl, by decide +kernel, by decide +kernel⟩
theorem ok__law_tables_right {P : Program} {w : World} {K : Fg} {mg : Str → Option Value} {base : Heap} (T : Tx P K mg) {fd : FuncData} (F : FnP K "_law_tables_right" s__law_tables_right (He.ga K "_law_tables_right") fd) : FnOk P w K mg base (L2.CX P w) 7 (He.ga K "_law_tables_right") fd ["state", "table"] (p__law_tables_right K) := by
  obtain ⟨fd__law_bent_tolls, F__law_bent_tolls⟩ := T.f__law_bent_tolls
  have G__law_bent_tolls : FnOk P w K mg base (L2.CX P w) 2 (He.ga K "_law_bent_tolls") fd__law_bent_tolls ["state", "table"] (p__law_bent_tolls K) := ok__law_bent_tolls T F__law_bent_tolls
  have b__law_bent_tolls : Binds K fd__law_bent_tolls ["state", "table"] [] := F__law_bent_tolls.bindsN fun _ _ _ _ _ _ us hl => match us, hl with | [_, _], _ => rfl
  obtain ⟨fd__law_copy, F__law_copy⟩ := T.f__law_copy
  have G__law_copy : FnOk P w K mg base (L2.CX P w) 1 (He.ga K "_law_copy") fd__law_copy ["table"] (p__law_copy K) := ok__law_copy T F__law_copy
  have b__law_copy : Binds K fd__law_copy ["table"] [] := F__law_copy.bindsN fun _ _ _ _ _ _ us hl => match us, hl with | [_], _ => rfl
  obtain ⟨fd__law_table_told, F__law_table_told⟩ := T.f__law_table_told
  have G__law_table_told : FnOk P w K mg base (L2.CX P w) 6 (He.ga K "_law_table_told") fd__law_table_told ["table", "which"] (p__law_table_told K) := ok__law_table_told T F__law_table_told
  have b__law_table_told : Binds K fd__law_table_told ["table", "which"] [] := F__law_table_told.bindsN fun _ _ _ _ _ _ us hl => match us, hl with | [_, _], _ => rfl
  obtain ⟨fd__law_whole, F__law_whole⟩ := T.f__law_whole
  have G__law_whole : FnOk P w K mg base (L2.CX P w) 1 (He.ga K "_law_whole") fd__law_whole ["thing"] (p__law_whole K) := ok__law_whole T F__law_whole
  have b__law_whole : Binds K fd__law_whole ["thing"] [] := F__law_whole.bindsN fun _ _ _ _ _ _ us hl => match us, hl with | [_], _ => rfl
  obtain ⟨fd__law_wrong_row, F__law_wrong_row⟩ := T.f__law_wrong_row
  have G__law_wrong_row : FnOk P w K mg base (L2.CX P w) 1 (He.ga K "_law_wrong_row") fd__law_wrong_row ["table"] (p__law_wrong_row K) := ok__law_wrong_row T F__law_wrong_row
  have b__law_wrong_row : Binds K fd__law_wrong_row ["table"] [] := F__law_wrong_row.bindsN fun _ _ _ _ _ _ us hl => match us, hl with | [_], _ => rfl
  have sc := sc__law_tables_right
  refine F.ok sc (fun vs H Q E h => ?_) (fun cdv A outer s H vs Q E hr h => ?_)
  · obtain ⟨g, p, z, B, o, ss, _⟩ := h
    exact (Paired.length ss).trans rfl
  · obtain ⟨⟨state, table⟩, p0, z, B, o, ss, ex, h1, h2, h3, h4, hm, k⟩ := h
    obtain ⟨v0, v1, rfl, z0, z1⟩ := pn2 ss
    cases (show _ = V.ref p0 from z0)
    have hu := hr.units
    refine ⟨_, (pss_cons (ps_set (i := 2) sc.nd rfl (Or.inl rfl) (pe_call G__law_bent_tolls (hr.mono (by decide)) (by rfl) T.m__law_bent_tolls F__law_bent_tolls.kp b__law_bent_tolls .nil passL (pa_cons (pv 0) (pa_cons (pv 1) pa_nil)))) (pss_cons (ps_set (i := 3) sc.nd rfl (Or.inl rfl) (pe_call G__law_copy (hr.mono (by decide)) (by rfl) T.m__law_copy F__law_copy.kp b__law_copy .nil passL (pa_cons (pv 2) pa_nil))) (pss_cons (ps_set (i := 4) sc.nd rfl (Or.inl rfl) (pe_call G__law_wrong_row (hr.mono (by decide)) (by rfl) T.m__law_wrong_row F__law_wrong_row.kp b__law_wrong_row .nil passL (pa_cons (pv 3) pa_nil))) (pss_cons (ps_for (passes_of rfl) rfl (pi_range1 (by rfl) T.b_range (pa_cons pe_int pa_nil)) (pg_name (i := 5) sc.nd rfl (Or.inl rfl)) (pss_cons (ps_set (i := 6) sc.nd rfl (Or.inl rfl) (pe_call G__law_table_told (hr.mono (by decide)) (by rfl) T.m__law_table_told F__law_table_told.kp b__law_table_told .nil passL (pa_cons (pv 2) (pa_cons (pv 5) pa_nil)))) (pss_cons (ps_if (PW.pt (pw_and (pt_cmpR op_eq (pv 4) (pe_un un_neg pe_int) (nomark _)) (pw_and (pt_cmpR op_eq (pv 5) pe_int (nomark _)) (pw_and1 (pt_cmpR (opneD (K := K) rfl hu) (pv 6) (pe_tup (pa_cons pe_str pa_nil)) (nomark _)))))) (pss_one (ps_ret pe_bl)) pss_nil) (pss_cons (ps_if (PW.pt (pw_and (pt_cmpR op_eq (pv 4) (pe_un un_neg pe_int) (nomark _)) (pw_and (pt_cmpR op_gt (pv 5) pe_int (nomark _)) (pw_and1 (pt_cmpR (opneD (K := K) rfl hu) (pv 6) (pe_tup (pa_cons pe_str pa_nil)) (nomark _)))))) (pss_one (ps_ret pe_bl)) pss_nil) (pss_one (ps_if (PW.pt (pw_and (pt_cmpR op_gt (pv 4) (pe_un un_neg pe_int) (nomark _)) (pw_and1 (PW.pt (pw_or (pt_cmpR op_ne (pe_callB (clen (K := K) rfl) (by rfl) T.b_len (by decide +kernel) (pa_cons (pv 6) pa_nil)) pe_int (nomark _)) (pw_or (pt_not (pt_val (pe_call G__law_whole (hr.mono (by decide)) (by rfl) T.m__law_whole F__law_whole.kp b__law_whole .nil passL (pa_cons (pe_ix (ixt (K := K) rfl) (pv 6) pe_int (fun _ _ => rfl)) pa_nil)))) (pw_or (pt_cmpR op_ne (pe_ix (ixt (K := K) rfl) (pv 6) pe_int (fun _ _ => rfl)) (pv 4) (nomark _)) (pw_or (pt_not (pt_val (pe_ix (ixt (K := K) rfl) (pv 6) pe_int (fun _ _ => rfl)))) (pw_or1 (pt_val (pe_ix (ixt (K := K) rfl) (pv 6) pe_int (fun _ _ => rfl)))))))))))) (pss_one (ps_ret pe_bl)) pss_nil)))))) (pss_one (ps_ret (pe_and (pe_cmpR (opeqD (K := K) rfl hu) (pv 2) (pv 3) (nomark _)) (pe_one (pe_cmpR (opeqD (K := K) rfl hu) (pe_call G__law_table_told (hr.mono (by decide)) (by rfl) T.m__law_table_told F__law_table_told.kp b__law_table_told .nil passL (pa_cons (pe_call G__law_copy (hr.mono (by decide)) (by rfl) T.m__law_copy F__law_copy.kp b__law_copy .nil passL (pa_cons (pv 1) pa_nil)) (pa_cons pe_int pa_nil))) (pe_tup (pa_cons pe_str pa_nil)) (nomark _)))))))))), ?_⟩
    have w := Wd.start1 (K := K) ex h1 h2 h3 h4
    unfold m__law_tables_right at hm
    obtain ⟨⟨r1, state3⟩, e2, hm⟩ := ob hm
    try dsimp only at hm
    refine s_asg w (ev_call1a (g := (state, table)) 0 rfl (ea_cons (ev_var (S := SA p0) rfl rfl) (ea_cons (ev_var (S := (rLst (rLst rInt)).s K table) rfl z1) ea_nil)) rfl (al_p (fun _ z => absurd z List.not_mem_nil) (al_p (fun _ z => absurd z List.not_mem_nil) al_nil)) e2) (fun v_5 B4 H4 x4 w4 h6 => ?_)
    obtain ⟨r7, e8, hm⟩ := ob hm
    refine s_asg w4 ((ev_call0 (g := r1) (ea_cons (ev_var (S := (rLst (rLst rInt)).s K r1) rfl h6) ea_nil) (al_p (fun _ z => z) al_nil) e8).le llg_s) (fun v_10 B9 H9 x9 w9 h11 => ?_)
    obtain ⟨r12, e13, hm⟩ := ob hm
    refine s_asg w9 ((ev_call0 (g := r7) (ea_cons (ev_var (S := (rLst (rLst rInt)).s K r7) rfl h11) ea_nil) (al_p (fun _ z => z) al_nil) e13).le g_s) (fun v_15 B14 H14 x14 w14 h16 => ?_)
    obtain ⟨xs17, e18, hm⟩ := ob hm
    refine s_for (R := rInt) (oo := (fun (rr : Unit) => [CL rInt K state3])) (ρ0 := ()) (fun (which20 : Int) (_ : Unit) => ((m__law_table_told (r1, which20)).bind fun r21 =>
(cond (decide (r12 = (-(2 : Int)))) ((cond (decide (which20 = (0 : Int))) ((inlO r21).bind fun t26 => some (!decide (t26 = [tg_let]))) (some false)).bind fun b28 => some b28) (some false)).bind fun b30 =>
cond b30 (some (.rt (false, state3))) ((cond (decide (r12 = (-(2 : Int)))) ((cond (decide ((0 : Int) < which20)) ((inlO r21).bind fun t34 => some (!decide (t34 = [tg_refused]))) (some false)).bind fun b36 => some b36) (some false)).bind fun b38 =>
cond b38 (some (.rt (false, state3))) ((cond (decide ((-(2 : Int)) < r12)) ((inrO r21).bind fun t42 => (cond (!decide ((4 : Int) = (4 : Int))) (some true) ((inrO r21).bind fun t44 => (m__law_whole t44.2.1).bind fun r46 => (cond (!r46) (some true) ((inrO r21).bind fun t48 => (cond (!decide (t48.2.1 = r12)) (some true) ((inrO r21).bind fun t50 => (cond (!t50.2.2.1) (some true) ((inrO r21).bind fun t52 => some t52.2.2.2)).bind fun b54 => some b54)).bind fun b56 => some b56)).bind fun b58 => some b58)).bind fun b60 => some b60) (some false)).bind fun b62 =>
cond b62 (some (.rt (false, state3))) (some (.nx ())))) : Option (Ctl Unit (Bool × (List Int))))) (fun (_ : Unit) σ' B' => ∃ o_5 : Option V, ∃ o_6 : Option V, σ' = [some (.ref p0), some v1, some v_5, some v_10, some v_15, o_5, o_6]) (fun zz => finK _ _ zz = some _) w14 (ei_r1 ev_int e18) (fun rr σ' B1 B2 e ⟨o_5, o_6, hσ⟩ => ⟨o_5, o_6, hσ⟩) (fun B2 e => ⟨_, _, rfl⟩) hm ?_ ?_
    · rintro which20 rst rr vx19 σ' Bt19 Ht19 xt19 wt19 ⟨o_5t19, o_6t19, rfl⟩ hx19 hf N hN dn
      dsimp only [gName]
      obtain ⟨ctl, hfx, hbk19, hrt19⟩ := forL_step hf
      have hm := hfx
      obtain ⟨r21, e22, hm⟩ := ob hm
      refine s_asg wt19 ((ev_call0 (g := (r1, which20)) (ea_cons (ev_var (S := (rLst (rLst rInt)).s K r1) rfl (Sv.mono _ xt19 (Sv.mono _ x14 (Sv.mono _ x9 h6)))) (ea_cons (ev_var (S := rInt.s K which20) rfl hx19) ea_nil)) (al_p (fun _ z => z) (al_p (fun _ z => z) al_nil)) e22).le g_s) (fun v_24 B23 H23 x23 w23 h25 => ?_)
      obtain ⟨b30, e31, hm⟩ := ob hm
      try dsimp only
      refine s_if w23 (et_andO (b := b30) (et_test (ev_eqI (ev_var (S := rInt.s K r12) rfl (Sv.mono _ x23 (Sv.mono _ xt19 h16))) (ev_neg ev_int))) (fun hc => by have e31 := it hc e31; obtain ⟨b28, e29, e31⟩ := ob e31; have hq_ := Option.some.inj e31; subst hq_; exact (et_andO (b := b28) (et_test (ev_eqI (ev_var (S := rInt.s K which20) rfl (Sv.mono _ x23 hx19)) ev_int)) (fun hc => by have e29 := it hc e29; obtain ⟨t26, e27, e29⟩ := ob e29; have hq_ := Option.some.inj e29; subst hq_; exact (et_test (ev_neD (dqTpl dqTag) ((ev_var (S := (rEi (rTpl rTag) (rT4 rTag rInt rBool rBool)).s K r21) rfl h25).le (c_inl e27)) (ev_tpl (R := rTag) (xs := [tg_let]) (ea_cons (ev_tag tg_let) ea_nil) (by show 1 ≤ 1000; decide)) srd_s srd_s))) (fun hc => by have e29 := ie hc e29; cases e29; exact ⟨rfl, rfl⟩))) (fun hc => by have e31 := ie hc e31; cases e31; exact ⟨rfl, rfl⟩)) (fun hb B32 H32 x32 w32 => ?_) (fun hb B32 H32 x32 w32 => ?_)
      · have hm := it hb hm
        refine s_ret w32 ev_bl (fun vv B33 H33 x33 w33 hv => ?_)
        cases hm
        replace hm := hrt19 _ rfl
        cases hm
        obtain ⟨oz, gz1, _, gz3, gz4⟩ := w33.cell.get (i := 0) rfl rfl
        exact k _ _ _ oz w33.st w33.ex gz1 gz3 gz4 ((imm_flat _) _ _ _ _ _ hv)
      · have hm := ie hb hm
        obtain ⟨b38, e39, hm⟩ := ob hm
        try dsimp only
        refine s_if w32 (et_andO (b := b38) (et_test (ev_eqI (ev_var (S := rInt.s K r12) rfl (Sv.mono _ x32 (Sv.mono _ x23 (Sv.mono _ xt19 h16)))) (ev_neg ev_int))) (fun hc => by have e39 := it hc e39; obtain ⟨b36, e37, e39⟩ := ob e39; have hq_ := Option.some.inj e39; subst hq_; exact (et_andO (b := b36) (et_test (ev_gt (ev_var (S := rInt.s K which20) rfl (Sv.mono _ x32 (Sv.mono _ x23 hx19))) ev_int)) (fun hc => by have e37 := it hc e37; obtain ⟨t34, e35, e37⟩ := ob e37; have hq_ := Option.some.inj e37; subst hq_; exact (et_test (ev_neD (dqTpl dqTag) ((ev_var (S := (rEi (rTpl rTag) (rT4 rTag rInt rBool rBool)).s K r21) rfl (Sv.mono _ x32 h25)).le (c_inl e35)) (ev_tpl (R := rTag) (xs := [tg_refused]) (ea_cons (ev_tag tg_refused) ea_nil) (by show 1 ≤ 1000; decide)) srd_s srd_s))) (fun hc => by have e37 := ie hc e37; cases e37; exact ⟨rfl, rfl⟩))) (fun hc => by have e39 := ie hc e39; cases e39; exact ⟨rfl, rfl⟩)) (fun hb B40 H40 x40 w40 => ?_) (fun hb B40 H40 x40 w40 => ?_)
        · have hm := it hb hm
          refine s_ret w40 ev_bl (fun vv B41 H41 x41 w41 hv => ?_)
          cases hm
          replace hm := hrt19 _ rfl
          cases hm
          obtain ⟨oz, gz1, _, gz3, gz4⟩ := w41.cell.get (i := 0) rfl rfl
          exact k _ _ _ oz w41.st w41.ex gz1 gz3 gz4 ((imm_flat _) _ _ _ _ _ hv)
        · have hm := ie hb hm
          obtain ⟨b62, e63, hm⟩ := ob hm
          try dsimp only
          refine s_if w40 (et_andO (b := b62) (et_test (ev_gt (ev_var (S := rInt.s K r12) rfl (Sv.mono _ x40 (Sv.mono _ x32 (Sv.mono _ x23 (Sv.mono _ xt19 h16))))) (ev_neg ev_int))) (fun hc => by have e63 := it hc e63; obtain ⟨t42, e43, e63⟩ := ob e63; obtain ⟨b60, e61, e63⟩ := ob e63; have hq_ := Option.some.inj e63; subst hq_; exact (et_orO (b := b60) (et_test (ev_neI (ev_lenT4 ((ev_var (S := (rEi (rTpl rTag) (rT4 rTag rInt rBool rBool)).s K r21) rfl (Sv.mono _ x40 (Sv.mono _ x32 h25))).le (c_inr e43))) ev_int)) (fun hc => by have e61 := ie hc e61; obtain ⟨t44, e45, e61⟩ := ob e61; obtain ⟨r46, e47, e61⟩ := ob e61; obtain ⟨b58, e59, e61⟩ := ob e61; have hq_ := Option.some.inj e61; subst hq_; exact (et_orO (b := b58) (et_not (et_B ((ev_call0 (g := t44.2.1) (ea_cons (ev_T4b ((ev_var (S := (rEi (rTpl rTag) (rT4 rTag rInt rBool rBool)).s K r21) rfl (Sv.mono _ x40 (Sv.mono _ x32 h25))).le (c_inr e45))) ea_nil) (al_p (fun _ z => z) al_nil) e47).le g_s))) (fun hc => by have e59 := ie hc e59; obtain ⟨t48, e49, e59⟩ := ob e59; obtain ⟨b56, e57, e59⟩ := ob e59; have hq_ := Option.some.inj e59; subst hq_; exact (et_orO (b := b56) (et_test (ev_neI (ev_T4b ((ev_var (S := (rEi (rTpl rTag) (rT4 rTag rInt rBool rBool)).s K r21) rfl (Sv.mono _ x40 (Sv.mono _ x32 h25))).le (c_inr e49))) (ev_var (S := rInt.s K r12) rfl (Sv.mono _ x40 (Sv.mono _ x32 (Sv.mono _ x23 (Sv.mono _ xt19 h16))))))) (fun hc => by have e57 := ie hc e57; obtain ⟨t50, e51, e57⟩ := ob e57; obtain ⟨b54, e55, e57⟩ := ob e57; have hq_ := Option.some.inj e57; subst hq_; exact (et_orO (b := b54) (et_not (et_B (ev_T4c ((ev_var (S := (rEi (rTpl rTag) (rT4 rTag rInt rBool rBool)).s K r21) rfl (Sv.mono _ x40 (Sv.mono _ x32 h25))).le (c_inr e51))))) (fun hc => by have e55 := ie hc e55; obtain ⟨t52, e53, e55⟩ := ob e55; have hq_ := Option.some.inj e55; subst hq_; exact (et_B (ev_T4d ((ev_var (S := (rEi (rTpl rTag) (rT4 rTag rInt rBool rBool)).s K r21) rfl (Sv.mono _ x40 (Sv.mono _ x32 h25))).le (c_inr e53))))) (fun hc => by have e55 := it hc e55; cases e55; exact ⟨rfl, rfl⟩))) (fun hc => by have e57 := it hc e57; cases e57; exact ⟨rfl, rfl⟩))) (fun hc => by have e59 := it hc e59; cases e59; exact ⟨rfl, rfl⟩))) (fun hc => by have e61 := it hc e61; cases e61; exact ⟨rfl, rfl⟩))) (fun hc => by have e63 := ie hc e63; cases e63; exact ⟨rfl, rfl⟩)) (fun hb B64 H64 x64 w64 => ?_) (fun hb B64 H64 x64 w64 => ?_)
          · have hm := it hb hm
            refine s_ret w64 ev_bl (fun vv B65 H65 x65 w65 hv => ?_)
            cases hm
            replace hm := hrt19 _ rfl
            cases hm
            obtain ⟨oz, gz1, _, gz3, gz4⟩ := w65.cell.get (i := 0) rfl rfl
            exact k _ _ _ oz w65.st w65.ex gz1 gz3 gz4 ((imm_flat _) _ _ _ _ _ hv)
          · have hm := ie hb hm
            have hq_ := Option.some.inj hm
            subst hq_
            exact hN () _ _ _ hfx (((x23.trans x32).trans x40).trans x64) w64 ⟨_, _, rfl⟩
    · rintro rr σ' B66 H66 x66 w66 ⟨o_5k67, o_6k67, rfl⟩ hm
      try dsimp only
      replace hm := finK_nx hm
      obtain ⟨b74, e75, hm⟩ := ob hm
      refine s_ret w66 (ev_andO (b := b74) (ev_eqD (dqLst (dqLst dqInt)) (ev_var (S := (rLst (rLst rInt)).s K r1) rfl (Sv.mono _ x66 (Sv.mono _ x14 (Sv.mono _ x9 h6)))) (ev_var (S := (rLst (rLst rInt)).s K r7) rfl (Sv.mono _ x66 (Sv.mono _ x14 h11))) srd_s srd_s) (fun hc => by have e75 := it hc e75; obtain ⟨r68, e69, e75⟩ := ob e75; obtain ⟨r70, e71, e75⟩ := ob e75; obtain ⟨t72, e73, e75⟩ := ob e75; have hq_ := Option.some.inj e75; subst hq_; exact (ev_eqD (dqTpl dqTag) (((ev_call0 (g := (r68, (0 : Int))) (ea_cons (ev_call0 (g := table) (ea_cons (ev_var (S := (rLst (rLst rInt)).s K table) rfl (Sv.mono _ x66 (Sv.mono _ x14 (Sv.mono _ x9 (Sv.mono _ x4 z1))))) ea_nil) (al_p (fun _ z => z) al_nil) e69) (ea_cons ev_int ea_nil)) (al_le llg_s (fun _ z => z) (al_p (fun _ z => z) al_nil)) e71).le g_s).le (c_inl e73)) (ev_tpl (R := rTag) (xs := [tg_let]) (ea_cons (ev_tag tg_let) ea_nil) (by show 1 ≤ 1000; decide)) srd_s srd_s)) (fun hc => by have e75 := ie hc e75; cases e75; exact ⟨rfl, rfl⟩)) (fun vv B76 H76 x76 w76 hv => ?_)
      cases hm
      obtain ⟨oz, gz1, _, gz3, gz4⟩ := w76.cell.get (i := 0) rfl rfl
      exact k _ _ _ oz w76.st w76.ex gz1 gz3 gz4 ((imm_flat _) _ _ _ _ _ hv)
def m__law_road_told : (List (List Int)) × Int × Int → Option (Tag × Int) := fun (table, place, x_end) =>
  (m_toll_of (table, place, x_end)).bind fun rx => match rx with
  | .error r4 => (xM (xIs "BadPlace" "place" r4) (fun n7 => (some (tg_place, n7))) (xM (xIs "BadSize" "size" r4) (fun n17 => (some (tg_other, (1 : Int)))) (xM (xIs "BadNumber" "number" r4) (fun n27 => (some (tg_other, (1 : Int)))) (xM (xIs "BadTolls" "place" r4) (fun n37 => (some (tg_other, (1 : Int)))) (xM (xIs "BadPlan" "place" r4) (fun n47 => (some (tg_other, (1 : Int)))) (none))))))
  | .ok r4 => (some (tg_toll, r4))
def p__law_road_told (K : Fg) : Sp := Pr0 K (fun (g : (List (List Int)) × Int × Int) => [(rLst (rLst rInt)).s K g.1, rInt.s K g.2.1, rInt.s K g.2.2]) m__law_road_told (rT2 rTag rInt)
abbrev N__law_road_told : List Str := ["table", "place", "end", "told", "e"]
theorem sc__law_road_told : FnScope N__law_road_told ["table", "place", "end"] (defScope s__law_road_told) := ⟨rfl, rfl, rfl, by decide +kernel, rfl, by decide +kernel, by decide +kernel⟩
theorem ok__law_road_told {P : Program} {w : World} {K : Fg} {mg : Str → Option Value} {base : Heap} (T : Tx P K mg) {fd : FuncData} (F : FnP K "_law_road_told" s__law_road_told (He.ga K "_law_road_told") fd) : FnOk P w K mg base (L2.CX P w) 6 (He.ga K "_law_road_told") fd ["table", "place", "end"] (p__law_road_told K) := by
  obtain ⟨fd_toll_of, F_toll_of⟩ := T.f_toll_of
  have G_toll_of : FnOk P w K mg base (L2.CX P w) 5 (He.ga K "toll_of") fd_toll_of ["tolls", "place", "end"] (p_toll_of K) := ok_toll_of T F_toll_of
  have b_toll_of : Binds K fd_toll_of ["tolls", "place", "end"] [] := F_toll_of.bindsN fun _ _ _ _ _ _ us hl => match us, hl with | [_, _, _], _ => rfl
  have sc := sc__law_road_told
  refine F.ok sc (fun vs H Q E h => ?_) (fun cdv A outer s H vs Q E hr h => ?_)
  · obtain ⟨g, z, B, ss, _⟩ := h
    exact (Paired.length ss).trans rfl
  · obtain ⟨⟨table, place, x_end⟩, z, B, ss, ex, hm, k⟩ := h
    obtain ⟨v0, v1, v2, rfl, z0, z1, z2⟩ := pn3 ss
    refine ⟨_, (pss_cons (ps_set (i := 3) sc.nd rfl (Or.inl rfl) (pe_tup (pa_cons pe_str (pa_cons pe_int pa_nil)))) (pss_cons (ps_try_hs rfl rfl tk0 (fun W pn xe tk_ _ => (pss_one (ps_set (i := 3) sc.nd rfl (Or.inl rfl) (pe_tup (pa_cons pe_str (pa_cons (pe_callS G_toll_of (hr.mono (by decide)) (by rfl) T.m_toll_of F_toll_of.kp b_toll_of (fun σ_ => passAt tk_ σ_) (pa_cons (pv 0) (pa_cons (pv 1) (pa_cons (pv 2) pa_nil)))) pa_nil)))))) (HdA.a (i := 4) sc.nd rfl rfl ⟨by rfl, by decide, Or.inl T.g_BadPlace⟩ (fun a oe cls d pn hz hf => (pss_one (ps_set (i := 3) sc.nd rfl (Or.inl rfl) (pe_tup (pa_cons pe_str (pa_cons (pe_xf (C := He.ga K "BadPlace") T.xf_BadPlace T.no_BadPlace hz hf (pv 4)) pa_nil)))))) (HdA.p ⟨by rfl, by decide, Or.inl T.g_TiedError⟩ (fun a oe cls d pn hz hf => (pss_one (ps_set (i := 3) sc.nd rfl (Or.inl rfl) (pe_tup (pa_cons pe_str (pa_cons pe_int pa_nil)))))) HdA.nil))) (pss_one (ps_ret (pv 3))))), ?_⟩
    have w := Wd.start (K := K) ex
    unfold m__law_road_told at hm
    refine s_asg w (ev_T2 (ea_cons (ev_tag tg_other) (ea_cons ev_int ea_nil))) (fun v_2 B1 H1 x1 w1 h3 => ?_)
    obtain ⟨r4, e5, hm⟩ := ob hm
    cases r4 with
    | error r4 =>
      try dsimp only [tAsg, tTup, tCons, tC, tDrop, tIfS, tTest, tOp, tB, tNot]
      refine callS w1 (ea_cons (ev_var (S := (rLst (rLst rInt)).s K table) rfl (Sv.mono _ x1 z0)) (ea_cons (ev_var (S := rInt.s K place) rfl (Sv.mono _ x1 z1)) (ea_cons (ev_var (S := rInt.s K x_end) rfl (Sv.mono _ x1 z2)) ea_nil))) (al_p (fun _ z => z) (al_p (fun _ z => z) (al_p (fun _ z => z) al_nil))) e5 (fun cls d B6 H6 x6 w6 hx => ?_)
      cases hx8 : xIs "BadPlace" "place" r4 with
      | some n7 =>
        replace hm := xM_some hx8 hm
        obtain rfl := xIs_eq hx8
        obtain ⟨rfl, dd10, rfl, hd9⟩ := hx
        refine wH_yesA T.x_BadPlace_BadPlace (fun a11 na12 => ?_)
        refine s_asg w6 (ev_T2 (ea_cons (ev_tag tg_place) (ea_cons (ev_fld (C := He.ga K "BadPlace") (ev_var (S := SA a11) rfl rfl) hd9) ea_nil))) (fun v_14 B13 H13 x13 w13 h15 => ?_)
        try dsimp only [goneE]
        refine s_ret w13 (ev_var (S := (rT2 rTag rInt).s K (tg_place, n7)) rfl h15) (fun vv B16 H16 x16 w16 hv => ?_)
        cases hm
        exact k _ _ _ w16.st w16.ex ((imm_T2 (imm_flat _) (imm_flat _)) _ _ _ _ _ hv)
      | none =>
        replace hm := xM_none hx8 hm
        cases hx18 : xIs "BadSize" "size" r4 with
        | some n17 =>
          replace hm := xM_some hx18 hm
          obtain rfl := xIs_eq hx18
          obtain ⟨rfl, dd20, rfl, hd19⟩ := hx
          refine wH_noA T.x_BadSize_BadPlace ?_
          refine wH_yes T.x_BadSize_TiedError (fun a21 na22 => ?_)
          refine s_asg w6 (ev_T2 (ea_cons (ev_tag tg_other) (ea_cons ev_int ea_nil))) (fun v_24 B23 H23 x23 w23 h25 => ?_)
          try dsimp only [goneE]
          refine s_ret w23 (ev_var (S := (rT2 rTag rInt).s K (tg_other, (1 : Int))) rfl h25) (fun vv B26 H26 x26 w26 hv => ?_)
          cases hm
          exact k _ _ _ w26.st w26.ex ((imm_T2 (imm_flat _) (imm_flat _)) _ _ _ _ _ hv)
        | none =>
          replace hm := xM_none hx18 hm
          cases hx28 : xIs "BadNumber" "number" r4 with
          | some n27 =>
            replace hm := xM_some hx28 hm
            obtain rfl := xIs_eq hx28
            obtain ⟨rfl, dd30, rfl, hd29⟩ := hx
            refine wH_noA T.x_BadNumber_BadPlace ?_
            refine wH_yes T.x_BadNumber_TiedError (fun a31 na32 => ?_)
            refine s_asg w6 (ev_T2 (ea_cons (ev_tag tg_other) (ea_cons ev_int ea_nil))) (fun v_34 B33 H33 x33 w33 h35 => ?_)
            try dsimp only [goneE]
            refine s_ret w33 (ev_var (S := (rT2 rTag rInt).s K (tg_other, (1 : Int))) rfl h35) (fun vv B36 H36 x36 w36 hv => ?_)
            cases hm
            exact k _ _ _ w36.st w36.ex ((imm_T2 (imm_flat _) (imm_flat _)) _ _ _ _ _ hv)
          | none =>
            replace hm := xM_none hx28 hm
            cases hx38 : xIs "BadTolls" "place" r4 with
            | some n37 =>
              replace hm := xM_some hx38 hm
              obtain rfl := xIs_eq hx38
              obtain ⟨rfl, dd40, rfl, hd39⟩ := hx
              refine wH_noA T.x_BadTolls_BadPlace ?_
              refine wH_yes T.x_BadTolls_TiedError (fun a41 na42 => ?_)
              refine s_asg w6 (ev_T2 (ea_cons (ev_tag tg_other) (ea_cons ev_int ea_nil))) (fun v_44 B43 H43 x43 w43 h45 => ?_)
              try dsimp only [goneE]
              refine s_ret w43 (ev_var (S := (rT2 rTag rInt).s K (tg_other, (1 : Int))) rfl h45) (fun vv B46 H46 x46 w46 hv => ?_)
              cases hm
              exact k _ _ _ w46.st w46.ex ((imm_T2 (imm_flat _) (imm_flat _)) _ _ _ _ _ hv)
            | none =>
              replace hm := xM_none hx38 hm
              cases hx48 : xIs "BadPlan" "place" r4 with
              | some n47 =>
                replace hm := xM_some hx48 hm
                obtain rfl := xIs_eq hx48
                obtain ⟨rfl, dd50, rfl, hd49⟩ := hx
                refine wH_noA T.x_BadPlan_BadPlace ?_
                refine wH_yes T.x_BadPlan_TiedError (fun a51 na52 => ?_)
                refine s_asg w6 (ev_T2 (ea_cons (ev_tag tg_other) (ea_cons ev_int ea_nil))) (fun v_54 B53 H53 x53 w53 h55 => ?_)
                try dsimp only [goneE]
                refine s_ret w53 (ev_var (S := (rT2 rTag rInt).s K (tg_other, (1 : Int))) rfl h55) (fun vv B56 H56 x56 w56 hv => ?_)
                cases hm
                exact k _ _ _ w56.st w56.ex ((imm_T2 (imm_flat _) (imm_flat _)) _ _ _ _ _ hv)
              | none =>
                replace hm := xM_none hx48 hm
                cases hm
    | ok r4 =>
      refine s_asg w1 (ev_T2 (ea_cons (ev_tag tg_toll) (ea_cons ((ev_callSok (g := (table, place, x_end)) (ea_cons (ev_var (S := (rLst (rLst rInt)).s K table) rfl (Sv.mono _ x1 z0)) (ea_cons (ev_var (S := rInt.s K place) rfl (Sv.mono _ x1 z1)) (ea_cons (ev_var (S := rInt.s K x_end) rfl (Sv.mono _ x1 z2)) ea_nil))) (al_p (fun _ z => z) (al_p (fun _ z => z) (al_p (fun _ z => z) al_nil))) e5).le g_s) ea_nil))) (fun v_58 B57 H57 x57 w57 h59 => ?_)
      refine s_ret w57 (ev_var (S := (rT2 rTag rInt).s K (tg_toll, r4)) rfl h59) (fun vv B60 H60 x60 w60 hv => ?_)
      cases hm
      exact k _ _ _ w60.st w60.ex ((imm_T2 (imm_flat _) (imm_flat _)) _ _ _ _ _ hv)
def m__law_changed_told : (List (List Int)) × Int × Int × Int → Option (Tag × (Int ⊕ (List (List Int)))) := fun (table, place, x_end, toll) =>
  (m_with_toll (table, place, x_end, toll)).bind fun rx => match rx with
  | .error r5 => (xM (xIs "BadPlace" "place" r5) (fun n8 => (some (tg_place, (Sum.inl n8)))) (xM (xIs "BadSize" "size" r5) (fun n19 => (some (tg_other, (Sum.inl (1 : Int))))) (xM (xIs "BadNumber" "number" r5) (fun n30 => (some (tg_number, (Sum.inl n30)))) (xM (xIs "BadTolls" "place" r5) (fun n41 => (some (tg_other, (Sum.inl (1 : Int))))) (xM (xIs "BadPlan" "place" r5) (fun n52 => (some (tg_other, (Sum.inl (1 : Int))))) (none))))))
  | .ok r5 => (some (tg_table, (Sum.inr r5)))
def p__law_changed_told (K : Fg) : Sp := Pr0 K (fun (g : (List (List Int)) × Int × Int × Int) => [(rLst (rLst rInt)).s K g.1, rInt.s K g.2.1, rInt.s K g.2.2.1, rInt.s K g.2.2.2]) m__law_changed_told (rT2 rTag (rEi rInt rLL))
abbrev N__law_changed_told : List Str := ["table", "place", "end", "toll", "told", "e"]
theorem sc__law_changed_told : FnScope N__law_changed_told ["table", "place", "end", "toll"] (defScope s__law_changed_told) := ⟨rfl, rfl, rfl, by decide +kernel, rfl, by decide +kernel, by decide +kernel⟩
theorem ok__law_changed_told {P : Program} {w : World} {K : Fg} {mg : Str → Option Value} {base : Heap} (T : Tx P K mg) {fd : FuncData} (F : FnP K "_law_changed_told" s__law_changed_told (He.ga K "_law_changed_told") fd) : FnOk P w K mg base (L2.CX P w) 6 (He.ga K "_law_changed_told") fd ["table", "place", "end", "toll"] (p__law_changed_told K) := by
  obtain ⟨fd_with_toll, F_with_toll⟩ := T.f_with_toll
  have G_with_toll : FnOk P w K mg base (L2.CX P w) 5 (He.ga K "with_toll") fd_with_toll ["tolls", "place", "end", "toll"] (p_with_toll K) := ok_with_toll T F_with_toll
  have b_with_toll : Binds K fd_with_toll ["tolls", "place", "end", "toll"] [] := F_with_toll.bindsN fun _ _ _ _ _ _ us hl => match us, hl with | [_, _, _, _], _ => rfl
  have sc := sc__law_changed_told
  refine F.ok sc (fun vs H Q E h => ?_) (fun cdv A outer s H vs Q E hr h => ?_)
  · obtain ⟨g, z, B, ss, _⟩ := h
    exact (Paired.length ss).trans rfl
  · obtain ⟨⟨table, place, x_end, toll⟩, z, B, ss, ex, hm, k⟩ := h
    obtain ⟨v0, v1, v2, v3, rfl, z0, z1, z2, z3⟩ := pn4 ss
    refine ⟨_, (pss_cons (ps_set (i := 4) sc.nd rfl (Or.inl rfl) (pe_tup (pa_cons pe_str (pa_cons pe_int pa_nil)))) (pss_cons (ps_try_hs rfl rfl tk0 (fun W pn xe tk_ _ => (pss_one (ps_set (i := 4) sc.nd rfl (Or.inl rfl) (pe_tup (pa_cons pe_str (pa_cons (pe_callS G_with_toll (hr.mono (by decide)) (by rfl) T.m_with_toll F_with_toll.kp b_with_toll (fun σ_ => passAt tk_ σ_) (pa_cons (pv 0) (pa_cons (pv 1) (pa_cons (pv 2) (pa_cons (pv 3) pa_nil))))) pa_nil)))))) (HdA.a (i := 5) sc.nd rfl rfl ⟨by rfl, by decide, Or.inl T.g_BadPlace⟩ (fun a oe cls d pn hz hf => (pss_one (ps_set (i := 4) sc.nd rfl (Or.inl rfl) (pe_tup (pa_cons pe_str (pa_cons (pe_xf (C := He.ga K "BadPlace") T.xf_BadPlace T.no_BadPlace hz hf (pv 5)) pa_nil)))))) (HdA.a (i := 5) sc.nd rfl rfl ⟨by rfl, by decide, Or.inl T.g_BadNumber⟩ (fun a oe cls d pn hz hf => (pss_one (ps_set (i := 4) sc.nd rfl (Or.inl rfl) (pe_tup (pa_cons pe_str (pa_cons (pe_xf (C := He.ga K "BadNumber") T.xf_BadNumber T.no_BadNumber hz hf (pv 5)) pa_nil)))))) (HdA.p ⟨by rfl, by decide, Or.inl T.g_TiedError⟩ (fun a oe cls d pn hz hf => (pss_one (ps_set (i := 4) sc.nd rfl (Or.inl rfl) (pe_tup (pa_cons pe_str (pa_cons pe_int pa_nil)))))) HdA.nil)))) (pss_one (ps_ret (pv 4))))), ?_⟩
    have w := Wd.start (K := K) ex
    unfold m__law_changed_told at hm
    refine s_asg w (ev_T2g (ea_cons ((ev_tag tg_other).le (s_g (imm_flat _))) (ea_cons ((ev_int.le (s_g (imm_flat _))).le (g_inl (R := rInt) (R' := rLL))) ea_nil))) (fun v_2 B1 H1 x1 w1 h3 => ?_)
    have h4 := r_f w h3
    obtain ⟨r5, e6, hm⟩ := ob hm
    cases r5 with
    | error r5 =>
      try dsimp only [tAsg, tTup, tCons, tC, tDrop, tIfS, tTest, tOp, tB, tNot]
      refine callS w1 (ea_cons (ev_var (S := (rLst (rLst rInt)).s K table) rfl (Sv.mono _ x1 z0)) (ea_cons (ev_var (S := rInt.s K place) rfl (Sv.mono _ x1 z1)) (ea_cons (ev_var (S := rInt.s K x_end) rfl (Sv.mono _ x1 z2)) (ea_cons (ev_var (S := rInt.s K toll) rfl (Sv.mono _ x1 z3)) ea_nil)))) (al_p (fun _ z => z) (al_p (fun _ z => z) (al_p (fun _ z => z) (al_p (fun _ z => z) al_nil)))) e6 (fun cls d B7 H7 x7 w7 hx => ?_)
      cases hx9 : xIs "BadPlace" "place" r5 with
      | some n8 =>
        replace hm := xM_some hx9 hm
        obtain rfl := xIs_eq hx9
        obtain ⟨rfl, dd11, rfl, hd10⟩ := hx
        refine wH_yesA T.x_BadPlace_BadPlace (fun a12 na13 => ?_)
        refine s_asg w7 (ev_T2g (ea_cons ((ev_tag tg_place).le (s_g (imm_flat _))) (ea_cons (((ev_fld (C := He.ga K "BadPlace") (ev_var (S := SA a12) rfl rfl) hd10).le (s_g (imm_flat _))).le (g_inl (R := rInt) (R' := rLL))) ea_nil))) (fun v_15 B14 H14 x14 w14 h16 => ?_)
        have h17 := r_f w7 h16
        try dsimp only [goneE]
        refine s_ret w14 (ev_var (S := (rT2 rTag (rEi rInt rLL)).g K H (tg_place, (Sum.inl n8))) rfl h17) (fun vv B18 H18 x18 w18 hv => ?_)
        cases hm
        exact k _ _ _ w18.st w18.ex hv
      | none =>
        replace hm := xM_none hx9 hm
        cases hx20 : xIs "BadSize" "size" r5 with
        | some n19 =>
          replace hm := xM_some hx20 hm
          obtain rfl := xIs_eq hx20
          obtain ⟨rfl, dd22, rfl, hd21⟩ := hx
          refine wH_noA T.x_BadSize_BadPlace ?_
          refine wH_noA T.x_BadSize_BadNumber ?_
          refine wH_yes T.x_BadSize_TiedError (fun a23 na24 => ?_)
          refine s_asg w7 (ev_T2g (ea_cons ((ev_tag tg_other).le (s_g (imm_flat _))) (ea_cons ((ev_int.le (s_g (imm_flat _))).le (g_inl (R := rInt) (R' := rLL))) ea_nil))) (fun v_26 B25 H25 x25 w25 h27 => ?_)
          have h28 := r_f w7 h27
          try dsimp only [goneE]
          refine s_ret w25 (ev_var (S := (rT2 rTag (rEi rInt rLL)).g K H (tg_other, (Sum.inl (1 : Int)))) rfl h28) (fun vv B29 H29 x29 w29 hv => ?_)
          cases hm
          exact k _ _ _ w29.st w29.ex hv
        | none =>
          replace hm := xM_none hx20 hm
          cases hx31 : xIs "BadNumber" "number" r5 with
          | some n30 =>
            replace hm := xM_some hx31 hm
            obtain rfl := xIs_eq hx31
            obtain ⟨rfl, dd33, rfl, hd32⟩ := hx
            refine wH_noA T.x_BadNumber_BadPlace ?_
            refine wH_yesA T.x_BadNumber_BadNumber (fun a34 na35 => ?_)
            refine s_asg w7 (ev_T2g (ea_cons ((ev_tag tg_number).le (s_g (imm_flat _))) (ea_cons (((ev_fld (C := He.ga K "BadNumber") (ev_var (S := SA a34) rfl rfl) hd32).le (s_g (imm_flat _))).le (g_inl (R := rInt) (R' := rLL))) ea_nil))) (fun v_37 B36 H36 x36 w36 h38 => ?_)
            have h39 := r_f w7 h38
            try dsimp only [goneE]
            refine s_ret w36 (ev_var (S := (rT2 rTag (rEi rInt rLL)).g K H (tg_number, (Sum.inl n30))) rfl h39) (fun vv B40 H40 x40 w40 hv => ?_)
            cases hm
            exact k _ _ _ w40.st w40.ex hv
          | none =>
            replace hm := xM_none hx31 hm
            cases hx42 : xIs "BadTolls" "place" r5 with
            | some n41 =>
              replace hm := xM_some hx42 hm
              obtain rfl := xIs_eq hx42
              obtain ⟨rfl, dd44, rfl, hd43⟩ := hx
              refine wH_noA T.x_BadTolls_BadPlace ?_
              refine wH_noA T.x_BadTolls_BadNumber ?_
              refine wH_yes T.x_BadTolls_TiedError (fun a45 na46 => ?_)
              refine s_asg w7 (ev_T2g (ea_cons ((ev_tag tg_other).le (s_g (imm_flat _))) (ea_cons ((ev_int.le (s_g (imm_flat _))).le (g_inl (R := rInt) (R' := rLL))) ea_nil))) (fun v_48 B47 H47 x47 w47 h49 => ?_)
              have h50 := r_f w7 h49
              try dsimp only [goneE]
              refine s_ret w47 (ev_var (S := (rT2 rTag (rEi rInt rLL)).g K H (tg_other, (Sum.inl (1 : Int)))) rfl h50) (fun vv B51 H51 x51 w51 hv => ?_)
              cases hm
              exact k _ _ _ w51.st w51.ex hv
            | none =>
              replace hm := xM_none hx42 hm
              cases hx53 : xIs "BadPlan" "place" r5 with
              | some n52 =>
                replace hm := xM_some hx53 hm
                obtain rfl := xIs_eq hx53
                obtain ⟨rfl, dd55, rfl, hd54⟩ := hx
                refine wH_noA T.x_BadPlan_BadPlace ?_
                refine wH_noA T.x_BadPlan_BadNumber ?_
                refine wH_yes T.x_BadPlan_TiedError (fun a56 na57 => ?_)
                refine s_asg w7 (ev_T2g (ea_cons ((ev_tag tg_other).le (s_g (imm_flat _))) (ea_cons ((ev_int.le (s_g (imm_flat _))).le (g_inl (R := rInt) (R' := rLL))) ea_nil))) (fun v_59 B58 H58 x58 w58 h60 => ?_)
                have h61 := r_f w7 h60
                try dsimp only [goneE]
                refine s_ret w58 (ev_var (S := (rT2 rTag (rEi rInt rLL)).g K H (tg_other, (Sum.inl (1 : Int)))) rfl h61) (fun vv B62 H62 x62 w62 hv => ?_)
                cases hm
                exact k _ _ _ w62.st w62.ex hv
              | none =>
                replace hm := xM_none hx53 hm
                cases hm
    | ok r5 =>
      refine s_asg w1 (ev_T2g (ea_cons ((ev_tag tg_table).le (s_g (imm_flat _))) (ea_cons ((ev_callSok (g := (table, place, x_end, toll)) (ea_cons (ev_var (S := (rLst (rLst rInt)).s K table) rfl (Sv.mono _ x1 z0)) (ea_cons (ev_var (S := rInt.s K place) rfl (Sv.mono _ x1 z1)) (ea_cons (ev_var (S := rInt.s K x_end) rfl (Sv.mono _ x1 z2)) (ea_cons (ev_var (S := rInt.s K toll) rfl (Sv.mono _ x1 z3)) ea_nil)))) (al_p (fun _ z => z) (al_p (fun _ z => z) (al_p (fun _ z => z) (al_p (fun _ z => z) al_nil)))) e6).le (g_inr (R := rInt) (R' := rLL))) ea_nil))) (fun v_64 B63 H63 x63 w63 h65 => ?_)
      have h66 := r_f w1 h65
      refine s_ret w63 (ev_var (S := (rT2 rTag (rEi rInt rLL)).g K H (tg_table, (Sum.inr r5))) rfl h66) (fun vv B67 H67 x67 w67 hv => ?_)
      cases hm
      exact k _ _ _ w67.st w67.ex hv
def m__law_plan_told : (List (List Int)) × (List Int) × Int → Option (Tag × (Int ⊕ (List Int))) := fun (table, plan, which) =>
  cond (decide (which = (0 : Int))) ((m_plan_ends plan).bind fun rx => match rx with
  | .error r5 => (xM (xIs "BadPlace" "place" r5) (fun n8 => (some (tg_other, (Sum.inl (1 : Int))))) (xM (xIs "BadSize" "size" r5) (fun n18 => (some (tg_size, (Sum.inl n18)))) (xM (xIs "BadNumber" "number" r5) (fun n28 => (some (tg_other, (Sum.inl (1 : Int))))) (xM (xIs "BadTolls" "place" r5) (fun n38 => (some (tg_other, (Sum.inl (1 : Int))))) (xM (xIs "BadPlan" "place" r5) (fun n48 => (some (tg_plan, (Sum.inl n48)))) (none))))))
  | .ok r5 => (some (tg_fine, (Sum.inr r5)))) (cond (decide (which = (1 : Int))) ((m_shut_in plan).bind fun rx => match rx with
  | .error r63 => (xM (xIs "BadPlace" "place" r63) (fun n66 => (some (tg_other, (Sum.inl (1 : Int))))) (xM (xIs "BadSize" "size" r63) (fun n76 => (some (tg_size, (Sum.inl n76)))) (xM (xIs "BadNumber" "number" r63) (fun n86 => (some (tg_other, (Sum.inl (1 : Int))))) (xM (xIs "BadTolls" "place" r63) (fun n96 => (some (tg_other, (Sum.inl (1 : Int))))) (xM (xIs "BadPlan" "place" r63) (fun n106 => (some (tg_plan, (Sum.inl n106)))) (none))))))
  | .ok r63 => (some (tg_fine, (Sum.inr r63)))) ((m_plan_price (table, plan)).bind fun rx => match rx with
  | .error r120 => (xM (xIs "BadPlace" "place" r120) (fun n123 => (some (tg_other, (Sum.inl (1 : Int))))) (xM (xIs "BadSize" "size" r120) (fun n133 => (some (tg_size, (Sum.inl n133)))) (xM (xIs "BadNumber" "number" r120) (fun n143 => (some (tg_other, (Sum.inl (1 : Int))))) (xM (xIs "BadTolls" "place" r120) (fun n153 => (some (tg_other, (Sum.inl (1 : Int))))) (xM (xIs "BadPlan" "place" r120) (fun n163 => (some (tg_plan, (Sum.inl n163)))) (none))))))
  | .ok r120 => (some (tg_fine, (Sum.inl r120)))))
def p__law_plan_told (K : Fg) : Sp := Pr0a K (fun (g : (List (List Int)) × (List Int) × Int) => [(rLst (rLst rInt)).s K g.1, (rLst rInt).s K g.2.1, rInt.s K g.2.2]) m__law_plan_told (rT2 rTag (rEi rInt (rLst rInt)))
abbrev N__law_plan_told : List Str := ["table", "plan", "which", "told", "e"]
theorem sc__law_plan_told : FnScope N__law_plan_told ["table", "plan", "which"] (defScope s__law_plan_told) := ⟨rfl, rfl, rfl, by decide +kernel, rfl, by decide +kernel, by decide +kernel⟩
theorem ok__law_plan_told {P : Program} {w : World} {K : Fg} {mg : Str → Option Value} {base : Heap} (T : Tx P K mg) {fd : FuncData} (F : FnP K "_law_plan_told" s__law_plan_told (He.ga K "_law_plan_told") fd) : FnOk P w K mg base (L2.CX P w) 5 (He.ga K "_law_plan_told") fd ["table", "plan", "which"] (p__law_plan_told K) := by
  obtain ⟨fd_plan_ends, F_plan_ends⟩ := T.f_plan_ends
  have G_plan_ends : FnOk P w K mg base (L2.CX P w) 2 (He.ga K "plan_ends") fd_plan_ends ["plan"] (p_plan_ends K) := ok_plan_ends T F_plan_ends
  have b_plan_ends : Binds K fd_plan_ends ["plan"] [] := F_plan_ends.bindsN fun _ _ _ _ _ _ us hl => match us, hl with | [_], _ => rfl
  obtain ⟨fd_plan_price, F_plan_price⟩ := T.f_plan_price
  have G_plan_price : FnOk P w K mg base (L2.CX P w) 4 (He.ga K "plan_price") fd_plan_price ["tolls", "plan"] (p_plan_price K) := ok_plan_price T F_plan_price
  have b_plan_price : Binds K fd_plan_price ["tolls", "plan"] [] := F_plan_price.bindsN fun _ _ _ _ _ _ us hl => match us, hl with | [_, _], _ => rfl
  obtain ⟨fd_shut_in, F_shut_in⟩ := T.f_shut_in
  have G_shut_in : FnOk P w K mg base (L2.CX P w) 3 (He.ga K "shut_in") fd_shut_in ["plan"] (p_shut_in K) := ok_shut_in T F_shut_in
  have b_shut_in : Binds K fd_shut_in ["plan"] [] := F_shut_in.bindsN fun _ _ _ _ _ _ us hl => match us, hl with | [_], _ => rfl
  have sc := sc__law_plan_told
  refine F.ok sc (fun vs H Q E h => ?_) (fun cdv A outer s H vs Q E hr h => ?_)
  · obtain ⟨g, z, B, ss, _⟩ := h
    exact (Paired.length ss).trans rfl
  · obtain ⟨⟨table, plan, which⟩, z, B, ss, ex, hm, k⟩ := h
    obtain ⟨v0, v1, v2, rfl, z0, z1, z2⟩ := pn3 ss
    refine ⟨_, (pss_cons (ps_set (i := 3) sc.nd rfl (Or.inl rfl) (pe_tup (pa_cons pe_str (pa_cons pe_int pa_nil)))) (pss_cons (ps_try_hs rfl rfl tk0 (fun W pn xe tk_ _ => (pss_one (ps_if (pt_cmpR op_eq (pv 2) pe_int (nomark _)) (pss_one (ps_set (i := 3) sc.nd rfl (Or.inl rfl) (pe_tup (pa_cons pe_str (pa_cons (pe_callS G_plan_ends (hr.mono (by decide)) (by rfl) T.m_plan_ends F_plan_ends.kp b_plan_ends (fun σ_ => passAt tk_ σ_) (pa_cons (pv 1) pa_nil)) pa_nil))))) (pss_one (ps_if (pt_cmpR op_eq (pv 2) pe_int (nomark _)) (pss_one (ps_set (i := 3) sc.nd rfl (Or.inl rfl) (pe_tup (pa_cons pe_str (pa_cons (pe_callS G_shut_in (hr.mono (by decide)) (by rfl) T.m_shut_in F_shut_in.kp b_shut_in (fun σ_ => passAt tk_ σ_) (pa_cons (pv 1) pa_nil)) pa_nil))))) (pss_one (ps_set (i := 3) sc.nd rfl (Or.inl rfl) (pe_tup (pa_cons pe_str (pa_cons (pe_callS G_plan_price (hr.mono (by decide)) (by rfl) T.m_plan_price F_plan_price.kp b_plan_price (fun σ_ => passAt tk_ σ_) (pa_cons (pv 0) (pa_cons (pv 1) pa_nil))) pa_nil)))))))))) (HdA.a (i := 4) sc.nd rfl rfl ⟨by rfl, by decide, Or.inl T.g_BadPlan⟩ (fun a oe cls d pn hz hf => (pss_one (ps_set (i := 3) sc.nd rfl (Or.inl rfl) (pe_tup (pa_cons pe_str (pa_cons (pe_xf (C := He.ga K "BadPlan") T.xf_BadPlan T.no_BadPlan hz hf (pv 4)) pa_nil)))))) (HdA.a (i := 4) sc.nd rfl rfl ⟨by rfl, by decide, Or.inl T.g_BadSize⟩ (fun a oe cls d pn hz hf => (pss_one (ps_set (i := 3) sc.nd rfl (Or.inl rfl) (pe_tup (pa_cons pe_str (pa_cons (pe_xf (C := He.ga K "BadSize") T.xf_BadSize T.no_BadSize hz hf (pv 4)) pa_nil)))))) (HdA.p ⟨by rfl, by decide, Or.inl T.g_TiedError⟩ (fun a oe cls d pn hz hf => (pss_one (ps_set (i := 3) sc.nd rfl (Or.inl rfl) (pe_tup (pa_cons pe_str (pa_cons pe_int pa_nil)))))) HdA.nil)))) (pss_one (ps_ret (pv 3))))), ?_⟩
    have w := Wd.start (K := K) ex
    unfold m__law_plan_told at hm
    refine s_asg w (ev_T2 (ea_cons (ev_tag tg_other) (ea_cons (ev_int.le (s_inl (R := rInt) (R' := (rLst rInt)))) ea_nil))) (fun v_2 B1 H1 x1 w1 h3 => ?_)
    try dsimp only
    refine s_if w1 (et_test (ev_eqI (ev_var (S := rInt.s K which) rfl (Sv.mono _ x1 z2)) ev_int)) (fun hb B4 H4 x4 w4 => ?_) (fun hb B4 H4 x4 w4 => ?_)
    · have hm := it hb hm
      obtain ⟨r5, e6, hm⟩ := ob hm
      cases r5 with
      | error r5 =>
        try dsimp only [tAsg, tTup, tCons, tC, tDrop, tIfS, tTest, tOp, tB, tNot]
        refine callSa w4 (ea_cons (ev_var (S := (rLst rInt).s K plan) rfl (Sv.mono _ x4 (Sv.mono _ x1 z1))) ea_nil) (al_p (fun _ z => absurd z List.not_mem_nil) al_nil) e6 (fun cls d B7 H7 x7 w7 hx => ?_)
        cases hx9 : xIs "BadPlace" "place" r5 with
        | some n8 =>
          replace hm := xM_some hx9 hm
          obtain rfl := xIs_eq hx9
          obtain ⟨rfl, dd11, rfl, hd10⟩ := hx
          refine wH_noA T.x_BadPlace_BadPlan ?_
          refine wH_noA T.x_BadPlace_BadSize ?_
          refine wH_yes T.x_BadPlace_TiedError (fun a12 na13 => ?_)
          refine s_asg w7 (ev_T2 (ea_cons (ev_tag tg_other) (ea_cons (ev_int.le (s_inl (R := rInt) (R' := (rLst rInt)))) ea_nil))) (fun v_15 B14 H14 x14 w14 h16 => ?_)
          try dsimp only [goneE]
          refine s_ret w14 (ev_var (S := (rT2 rTag (rEi rInt (rLst rInt))).s K (tg_other, (Sum.inl (1 : Int)))) rfl h16) (fun vv B17 H17 x17 w17 hv => ?_)
          cases hm
          exact k _ _ _ w17.st w17.ex hv
        | none =>
          replace hm := xM_none hx9 hm
          cases hx19 : xIs "BadSize" "size" r5 with
          | some n18 =>
            replace hm := xM_some hx19 hm
            obtain rfl := xIs_eq hx19
            obtain ⟨rfl, dd21, rfl, hd20⟩ := hx
            refine wH_noA T.x_BadSize_BadPlan ?_
            refine wH_yesA T.x_BadSize_BadSize (fun a22 na23 => ?_)
            refine s_asg w7 (ev_T2 (ea_cons (ev_tag tg_size) (ea_cons ((ev_fld (C := He.ga K "BadSize") (ev_var (S := SA a22) rfl rfl) hd20).le (s_inl (R := rInt) (R' := (rLst rInt)))) ea_nil))) (fun v_25 B24 H24 x24 w24 h26 => ?_)
            try dsimp only [goneE]
            refine s_ret w24 (ev_var (S := (rT2 rTag (rEi rInt (rLst rInt))).s K (tg_size, (Sum.inl n18))) rfl h26) (fun vv B27 H27 x27 w27 hv => ?_)
            cases hm
            exact k _ _ _ w27.st w27.ex hv
          | none =>
            replace hm := xM_none hx19 hm
            cases hx29 : xIs "BadNumber" "number" r5 with
            | some n28 =>
              replace hm := xM_some hx29 hm
              obtain rfl := xIs_eq hx29
              obtain ⟨rfl, dd31, rfl, hd30⟩ := hx
              refine wH_noA T.x_BadNumber_BadPlan ?_
              refine wH_noA T.x_BadNumber_BadSize ?_
              refine wH_yes T.x_BadNumber_TiedError (fun a32 na33 => ?_)
              refine s_asg w7 (ev_T2 (ea_cons (ev_tag tg_other) (ea_cons (ev_int.le (s_inl (R := rInt) (R' := (rLst rInt)))) ea_nil))) (fun v_35 B34 H34 x34 w34 h36 => ?_)
              try dsimp only [goneE]
              refine s_ret w34 (ev_var (S := (rT2 rTag (rEi rInt (rLst rInt))).s K (tg_other, (Sum.inl (1 : Int)))) rfl h36) (fun vv B37 H37 x37 w37 hv => ?_)
              cases hm
              exact k _ _ _ w37.st w37.ex hv
            | none =>
              replace hm := xM_none hx29 hm
              cases hx39 : xIs "BadTolls" "place" r5 with
              | some n38 =>
                replace hm := xM_some hx39 hm
                obtain rfl := xIs_eq hx39
                obtain ⟨rfl, dd41, rfl, hd40⟩ := hx
                refine wH_noA T.x_BadTolls_BadPlan ?_
                refine wH_noA T.x_BadTolls_BadSize ?_
                refine wH_yes T.x_BadTolls_TiedError (fun a42 na43 => ?_)
                refine s_asg w7 (ev_T2 (ea_cons (ev_tag tg_other) (ea_cons (ev_int.le (s_inl (R := rInt) (R' := (rLst rInt)))) ea_nil))) (fun v_45 B44 H44 x44 w44 h46 => ?_)
                try dsimp only [goneE]
                refine s_ret w44 (ev_var (S := (rT2 rTag (rEi rInt (rLst rInt))).s K (tg_other, (Sum.inl (1 : Int)))) rfl h46) (fun vv B47 H47 x47 w47 hv => ?_)
                cases hm
                exact k _ _ _ w47.st w47.ex hv
              | none =>
                replace hm := xM_none hx39 hm
                cases hx49 : xIs "BadPlan" "place" r5 with
                | some n48 =>
                  replace hm := xM_some hx49 hm
                  obtain rfl := xIs_eq hx49
                  obtain ⟨rfl, dd51, rfl, hd50⟩ := hx
                  refine wH_yesA T.x_BadPlan_BadPlan (fun a52 na53 => ?_)
                  refine s_asg w7 (ev_T2 (ea_cons (ev_tag tg_plan) (ea_cons ((ev_fld (C := He.ga K "BadPlan") (ev_var (S := SA a52) rfl rfl) hd50).le (s_inl (R := rInt) (R' := (rLst rInt)))) ea_nil))) (fun v_55 B54 H54 x54 w54 h56 => ?_)
                  try dsimp only [goneE]
                  refine s_ret w54 (ev_var (S := (rT2 rTag (rEi rInt (rLst rInt))).s K (tg_plan, (Sum.inl n48))) rfl h56) (fun vv B57 H57 x57 w57 hv => ?_)
                  cases hm
                  exact k _ _ _ w57.st w57.ex hv
                | none =>
                  replace hm := xM_none hx49 hm
                  cases hm
      | ok r5 =>
        refine s_asg w4 (ev_T2 (ea_cons (ev_tag tg_fine) (ea_cons ((ev_callSaok (g := plan) (ea_cons (ev_var (S := (rLst rInt).s K plan) rfl (Sv.mono _ x4 (Sv.mono _ x1 z1))) ea_nil) (al_p (fun _ z => absurd z List.not_mem_nil) al_nil) e6).le (s_inr (R := rInt) (R' := (rLst rInt)))) ea_nil))) (fun v_59 B58 H58 x58 w58 h60 => ?_)
        refine s_ret w58 (ev_var (S := (rT2 rTag (rEi rInt (rLst rInt))).s K (tg_fine, (Sum.inr r5))) rfl h60) (fun vv B61 H61 x61 w61 hv => ?_)
        cases hm
        exact k _ _ _ w61.st w61.ex hv
    · have hm := ie hb hm
      try dsimp only
      refine s_if w4 (et_test (ev_eqI (ev_var (S := rInt.s K which) rfl (Sv.mono _ x4 (Sv.mono _ x1 z2))) ev_int)) (fun hb B62 H62 x62 w62 => ?_) (fun hb B62 H62 x62 w62 => ?_)
      · have hm := it hb hm
        obtain ⟨r63, e64, hm⟩ := ob hm
        cases r63 with
        | error r63 =>
          try dsimp only [tAsg, tTup, tCons, tC, tDrop, tIfS, tTest, tOp, tB, tNot]
          refine callS w62 (ea_cons (ev_var (S := (rLst rInt).s K plan) rfl (Sv.mono _ x62 (Sv.mono _ x4 (Sv.mono _ x1 z1)))) ea_nil) (al_p (fun _ z => z) al_nil) e64 (fun cls d B65 H65 x65 w65 hx => ?_)
          cases hx67 : xIs "BadPlace" "place" r63 with
          | some n66 =>
            replace hm := xM_some hx67 hm
            obtain rfl := xIs_eq hx67
            obtain ⟨rfl, dd69, rfl, hd68⟩ := hx
            refine wH_noA T.x_BadPlace_BadPlan ?_
            refine wH_noA T.x_BadPlace_BadSize ?_
            refine wH_yes T.x_BadPlace_TiedError (fun a70 na71 => ?_)
            refine s_asg w65 (ev_T2 (ea_cons (ev_tag tg_other) (ea_cons (ev_int.le (s_inl (R := rInt) (R' := (rLst rInt)))) ea_nil))) (fun v_73 B72 H72 x72 w72 h74 => ?_)
            try dsimp only [goneE]
            refine s_ret w72 (ev_var (S := (rT2 rTag (rEi rInt (rLst rInt))).s K (tg_other, (Sum.inl (1 : Int)))) rfl h74) (fun vv B75 H75 x75 w75 hv => ?_)
            cases hm
            exact k _ _ _ w75.st w75.ex hv
          | none =>
            replace hm := xM_none hx67 hm
            cases hx77 : xIs "BadSize" "size" r63 with
            | some n76 =>
              replace hm := xM_some hx77 hm
              obtain rfl := xIs_eq hx77
              obtain ⟨rfl, dd79, rfl, hd78⟩ := hx
              refine wH_noA T.x_BadSize_BadPlan ?_
              refine wH_yesA T.x_BadSize_BadSize (fun a80 na81 => ?_)
              refine s_asg w65 (ev_T2 (ea_cons (ev_tag tg_size) (ea_cons ((ev_fld (C := He.ga K "BadSize") (ev_var (S := SA a80) rfl rfl) hd78).le (s_inl (R := rInt) (R' := (rLst rInt)))) ea_nil))) (fun v_83 B82 H82 x82 w82 h84 => ?_)
              try dsimp only [goneE]
              refine s_ret w82 (ev_var (S := (rT2 rTag (rEi rInt (rLst rInt))).s K (tg_size, (Sum.inl n76))) rfl h84) (fun vv B85 H85 x85 w85 hv => ?_)
              cases hm
              exact k _ _ _ w85.st w85.ex hv
            | none =>
              replace hm := xM_none hx77 hm
              cases hx87 : xIs "BadNumber" "number" r63 with
              | some n86 =>
                replace hm := xM_some hx87 hm
                obtain rfl := xIs_eq hx87
                obtain ⟨rfl, dd89, rfl, hd88⟩ := hx
                refine wH_noA T.x_BadNumber_BadPlan ?_
                refine wH_noA T.x_BadNumber_BadSize ?_
                refine wH_yes T.x_BadNumber_TiedError (fun a90 na91 => ?_)
                refine s_asg w65 (ev_T2 (ea_cons (ev_tag tg_other) (ea_cons (ev_int.le (s_inl (R := rInt) (R' := (rLst rInt)))) ea_nil))) (fun v_93 B92 H92 x92 w92 h94 => ?_)
                try dsimp only [goneE]
                refine s_ret w92 (ev_var (S := (rT2 rTag (rEi rInt (rLst rInt))).s K (tg_other, (Sum.inl (1 : Int)))) rfl h94) (fun vv B95 H95 x95 w95 hv => ?_)
                cases hm
                exact k _ _ _ w95.st w95.ex hv
              | none =>
                replace hm := xM_none hx87 hm
                cases hx97 : xIs "BadTolls" "place" r63 with
                | some n96 =>
                  replace hm := xM_some hx97 hm
                  obtain rfl := xIs_eq hx97
                  obtain ⟨rfl, dd99, rfl, hd98⟩ := hx
                  refine wH_noA T.x_BadTolls_BadPlan ?_
                  refine wH_noA T.x_BadTolls_BadSize ?_
                  refine wH_yes T.x_BadTolls_TiedError (fun a100 na101 => ?_)
                  refine s_asg w65 (ev_T2 (ea_cons (ev_tag tg_other) (ea_cons (ev_int.le (s_inl (R := rInt) (R' := (rLst rInt)))) ea_nil))) (fun v_103 B102 H102 x102 w102 h104 => ?_)
                  try dsimp only [goneE]
                  refine s_ret w102 (ev_var (S := (rT2 rTag (rEi rInt (rLst rInt))).s K (tg_other, (Sum.inl (1 : Int)))) rfl h104) (fun vv B105 H105 x105 w105 hv => ?_)
                  cases hm
                  exact k _ _ _ w105.st w105.ex hv
                | none =>
                  replace hm := xM_none hx97 hm
                  cases hx107 : xIs "BadPlan" "place" r63 with
                  | some n106 =>
                    replace hm := xM_some hx107 hm
                    obtain rfl := xIs_eq hx107
                    obtain ⟨rfl, dd109, rfl, hd108⟩ := hx
                    refine wH_yesA T.x_BadPlan_BadPlan (fun a110 na111 => ?_)
                    refine s_asg w65 (ev_T2 (ea_cons (ev_tag tg_plan) (ea_cons ((ev_fld (C := He.ga K "BadPlan") (ev_var (S := SA a110) rfl rfl) hd108).le (s_inl (R := rInt) (R' := (rLst rInt)))) ea_nil))) (fun v_113 B112 H112 x112 w112 h114 => ?_)
                    try dsimp only [goneE]
                    refine s_ret w112 (ev_var (S := (rT2 rTag (rEi rInt (rLst rInt))).s K (tg_plan, (Sum.inl n106))) rfl h114) (fun vv B115 H115 x115 w115 hv => ?_)
                    cases hm
                    exact k _ _ _ w115.st w115.ex hv
                  | none =>
                    replace hm := xM_none hx107 hm
                    cases hm
        | ok r63 =>
          refine s_asg w62 (ev_T2 (ea_cons (ev_tag tg_fine) (ea_cons (((ev_callSok (g := plan) (ea_cons (ev_var (S := (rLst rInt).s K plan) rfl (Sv.mono _ x62 (Sv.mono _ x4 (Sv.mono _ x1 z1)))) ea_nil) (al_p (fun _ z => z) al_nil) e64).le g_s).le (s_inr (R := rInt) (R' := (rLst rInt)))) ea_nil))) (fun v_117 B116 H116 x116 w116 h118 => ?_)
          refine s_ret w116 (ev_var (S := (rT2 rTag (rEi rInt (rLst rInt))).s K (tg_fine, (Sum.inr r63))) rfl h118) (fun vv B119 H119 x119 w119 hv => ?_)
          cases hm
          exact k _ _ _ w119.st w119.ex hv
      · have hm := ie hb hm
        obtain ⟨r120, e121, hm⟩ := ob hm
        cases r120 with
        | error r120 =>
          try dsimp only [tAsg, tTup, tCons, tC, tDrop, tIfS, tTest, tOp, tB, tNot]
          refine callS w62 (ea_cons (ev_var (S := (rLst (rLst rInt)).s K table) rfl (Sv.mono _ x62 (Sv.mono _ x4 (Sv.mono _ x1 z0)))) (ea_cons (ev_var (S := (rLst rInt).s K plan) rfl (Sv.mono _ x62 (Sv.mono _ x4 (Sv.mono _ x1 z1)))) ea_nil)) (al_p (fun _ z => z) (al_p (fun _ z => z) al_nil)) e121 (fun cls d B122 H122 x122 w122 hx => ?_)
          cases hx124 : xIs "BadPlace" "place" r120 with
          | some n123 =>
            replace hm := xM_some hx124 hm
            obtain rfl := xIs_eq hx124
            obtain ⟨rfl, dd126, rfl, hd125⟩ := hx
            refine wH_noA T.x_BadPlace_BadPlan ?_
            refine wH_noA T.x_BadPlace_BadSize ?_
            refine wH_yes T.x_BadPlace_TiedError (fun a127 na128 => ?_)
            refine s_asg w122 (ev_T2 (ea_cons (ev_tag tg_other) (ea_cons (ev_int.le (s_inl (R := rInt) (R' := (rLst rInt)))) ea_nil))) (fun v_130 B129 H129 x129 w129 h131 => ?_)
            try dsimp only [goneE]
            refine s_ret w129 (ev_var (S := (rT2 rTag (rEi rInt (rLst rInt))).s K (tg_other, (Sum.inl (1 : Int)))) rfl h131) (fun vv B132 H132 x132 w132 hv => ?_)
            cases hm
            exact k _ _ _ w132.st w132.ex hv
          | none =>
            replace hm := xM_none hx124 hm
            cases hx134 : xIs "BadSize" "size" r120 with
            | some n133 =>
              replace hm := xM_some hx134 hm
              obtain rfl := xIs_eq hx134
              obtain ⟨rfl, dd136, rfl, hd135⟩ := hx
              refine wH_noA T.x_BadSize_BadPlan ?_
              refine wH_yesA T.x_BadSize_BadSize (fun a137 na138 => ?_)
              refine s_asg w122 (ev_T2 (ea_cons (ev_tag tg_size) (ea_cons ((ev_fld (C := He.ga K "BadSize") (ev_var (S := SA a137) rfl rfl) hd135).le (s_inl (R := rInt) (R' := (rLst rInt)))) ea_nil))) (fun v_140 B139 H139 x139 w139 h141 => ?_)
              try dsimp only [goneE]
              refine s_ret w139 (ev_var (S := (rT2 rTag (rEi rInt (rLst rInt))).s K (tg_size, (Sum.inl n133))) rfl h141) (fun vv B142 H142 x142 w142 hv => ?_)
              cases hm
              exact k _ _ _ w142.st w142.ex hv
            | none =>
              replace hm := xM_none hx134 hm
              cases hx144 : xIs "BadNumber" "number" r120 with
              | some n143 =>
                replace hm := xM_some hx144 hm
                obtain rfl := xIs_eq hx144
                obtain ⟨rfl, dd146, rfl, hd145⟩ := hx
                refine wH_noA T.x_BadNumber_BadPlan ?_
                refine wH_noA T.x_BadNumber_BadSize ?_
                refine wH_yes T.x_BadNumber_TiedError (fun a147 na148 => ?_)
                refine s_asg w122 (ev_T2 (ea_cons (ev_tag tg_other) (ea_cons (ev_int.le (s_inl (R := rInt) (R' := (rLst rInt)))) ea_nil))) (fun v_150 B149 H149 x149 w149 h151 => ?_)
                try dsimp only [goneE]
                refine s_ret w149 (ev_var (S := (rT2 rTag (rEi rInt (rLst rInt))).s K (tg_other, (Sum.inl (1 : Int)))) rfl h151) (fun vv B152 H152 x152 w152 hv => ?_)
                cases hm
                exact k _ _ _ w152.st w152.ex hv
              | none =>
                replace hm := xM_none hx144 hm
                cases hx154 : xIs "BadTolls" "place" r120 with
                | some n153 =>
                  replace hm := xM_some hx154 hm
                  obtain rfl := xIs_eq hx154
                  obtain ⟨rfl, dd156, rfl, hd155⟩ := hx
                  refine wH_noA T.x_BadTolls_BadPlan ?_
                  refine wH_noA T.x_BadTolls_BadSize ?_
                  refine wH_yes T.x_BadTolls_TiedError (fun a157 na158 => ?_)
                  refine s_asg w122 (ev_T2 (ea_cons (ev_tag tg_other) (ea_cons (ev_int.le (s_inl (R := rInt) (R' := (rLst rInt)))) ea_nil))) (fun v_160 B159 H159 x159 w159 h161 => ?_)
                  try dsimp only [goneE]
                  refine s_ret w159 (ev_var (S := (rT2 rTag (rEi rInt (rLst rInt))).s K (tg_other, (Sum.inl (1 : Int)))) rfl h161) (fun vv B162 H162 x162 w162 hv => ?_)
                  cases hm
                  exact k _ _ _ w162.st w162.ex hv
                | none =>
                  replace hm := xM_none hx154 hm
                  cases hx164 : xIs "BadPlan" "place" r120 with
                  | some n163 =>
                    replace hm := xM_some hx164 hm
                    obtain rfl := xIs_eq hx164
                    obtain ⟨rfl, dd166, rfl, hd165⟩ := hx
                    refine wH_yesA T.x_BadPlan_BadPlan (fun a167 na168 => ?_)
                    refine s_asg w122 (ev_T2 (ea_cons (ev_tag tg_plan) (ea_cons ((ev_fld (C := He.ga K "BadPlan") (ev_var (S := SA a167) rfl rfl) hd165).le (s_inl (R := rInt) (R' := (rLst rInt)))) ea_nil))) (fun v_170 B169 H169 x169 w169 h171 => ?_)
                    try dsimp only [goneE]
                    refine s_ret w169 (ev_var (S := (rT2 rTag (rEi rInt (rLst rInt))).s K (tg_plan, (Sum.inl n163))) rfl h171) (fun vv B172 H172 x172 w172 hv => ?_)
                    cases hm
                    exact k _ _ _ w172.st w172.ex hv
                  | none =>
                    replace hm := xM_none hx164 hm
                    cases hm
        | ok r120 =>
          refine s_asg w62 (ev_T2 (ea_cons (ev_tag tg_fine) (ea_cons (((ev_callSok (g := (table, plan)) (ea_cons (ev_var (S := (rLst (rLst rInt)).s K table) rfl (Sv.mono _ x62 (Sv.mono _ x4 (Sv.mono _ x1 z0)))) (ea_cons (ev_var (S := (rLst rInt).s K plan) rfl (Sv.mono _ x62 (Sv.mono _ x4 (Sv.mono _ x1 z1)))) ea_nil)) (al_p (fun _ z => z) (al_p (fun _ z => z) al_nil)) e121).le g_s).le (s_inl (R := rInt) (R' := (rLst rInt)))) ea_nil))) (fun v_174 B173 H173 x173 w173 h175 => ?_)
          refine s_ret w173 (ev_var (S := (rT2 rTag (rEi rInt (rLst rInt))).s K (tg_fine, (Sum.inl r120))) rfl h175) (fun vv B176 H176 x176 w176 hv => ?_)
          cases hm
          exact k _ _ _ w176.st w176.ex hv
def m__law_plans_right : (List (List Int)) × (List Int) → Option (Bool) := fun (table, plan) =>
  (m__law_wrong_in_plan plan).bind fun r4 =>
  (rngO (0 : Int) (3 : Int)).bind fun xs9 =>
  finK (fun (_ : Unit) => (some (decide (plan = plan)))) (fun (tt : Bool) => some tt) (forL (fun (which12 : Int) (_ : Unit) => ((m__law_plan_told (table, plan, which12)).bind fun r13 =>
  cond (decide ((-(2 : Int)) < r4)) ((sndO inlO r13).bind fun t19 =>
  (cond (!decide (t19 = (tg_plan, r4))) (some true) ((inlO r13.2).bind fun t21 => (m__law_whole t21).bind fun r23 => some (!r23))).bind fun b25 =>
  cond b25 (some (.rt false)) (some (.nx ()))) (cond ((decide (which12 = (2 : Int))) && (!decide ((plan.length : Int) = (table.length : Int)))) ((sndO inlO r13).bind fun t30 =>
  cond (!decide (t30 = (tg_size, (plan.length : Int)))) (some (.rt false)) (some (.nx ()))) (cond (!decide (r13.1 = tg_fine)) (some (.rt false)) ((cond (decide (which12 = (0 : Int))) ((inrO r13.2).bind fun t36 => (rngO (0 : Int) (plan.length : Int)).bind fun xs38 => (lcO (fun (place : Int) (rr : Unit) => match rr with | () => some (true, ())) (fun (place : Int) (rr : Unit) => match rr with | () => (m__law_end (plan, place)).bind fun r40 => some (r40, ())) xs38 ()).bind fun (ys42, _) => (m__law_same_row (t36, ys42)).bind fun r44 => some (!r44)) (some false)).bind fun b46 =>
  cond b46 (some (.rt false)) ((cond (decide (which12 = (1 : Int))) ((inrO r13.2).bind fun t50 => (rngO (0 : Int) (plan.length : Int)).bind fun xs52 => (lcO (fun (place : Int) (rr : Unit) => match rr with | () => (atI plan place).bind fun t54 => some ((!decide (t54 = place)), ())) (fun (place : Int) (rr : Unit) => match rr with | () => some (place, ())) xs52 ()).bind fun (ys56, _) => (m__law_same_row (t50, ys56)).bind fun r58 => some (!r58)) (some false)).bind fun b60 =>
  cond b60 (some (.rt false)) (cond (decide (which12 = (2 : Int))) ((rngO (0 : Int) (plan.length : Int)).bind fun xs65 =>
  (lcO (fun (place : Int) (rr : Unit) => match rr with | () => (atI plan place).bind fun t67 => some ((!decide (t67 = place)), ())) (fun (place : Int) (rr : Unit) => match rr with | () => (atI table place).bind fun t69 => (atI plan place).bind fun t71 => (atI t69 t71).bind fun t73 => some (t73, ())) xs65 ()).bind fun (ys75, _) =>
  (inlO r13.2).bind fun t80 =>
  (m__law_whole t80).bind fun r82 =>
  (cond (!r82) (some true) ((inlO r13.2).bind fun t84 => some (!decide (t84 = ys75.sum)))).bind fun b86 =>
  cond b86 (some (.rt false)) (some (.nx ()))) (some (.nx ()))))))) : Option (Ctl Unit Bool))) xs9 ())
def p__law_plans_right (K : Fg) : Sp := Pr0 K (fun (g : (List (List Int)) × (List Int)) => [(rLst (rLst rInt)).s K g.1, (rLst rInt).s K g.2]) m__law_plans_right rBool
abbrev N__law_plans_right : List Str := ["table", "plan", "given", "wrong", "which", "told", "place", "price"]
theorem sc__law_plans_right : FnScope N__law_plans_right ["table", "plan"] (defScope s__law_plans_right) := ⟨rfl, rfl, rfl, by decide +kernel, rfl, by decide +kernel, by decide +kernel⟩
theorem ok__law_plans_right {P : Program} {w : World} {K : Fg} {mg : Str → Option Value} {base : Heap} (T : Tx P K mg) {fd : FuncData} (F : FnP K "_law_plans_right" s__law_plans_right (He.ga K "_law_plans_right") fd) : FnOk P w K mg base (L2.CX P w) 6 (He.ga K "_law_plans_right") fd ["table", "plan"] (p__law_plans_right K) := by
  obtain ⟨fd__law_end, F__law_end⟩ := T.f__law_end
  have G__law_end : FnOk P w K mg base (L2.CX P w) 1 (He.ga K "_law_end") fd__law_end ["plan", "place"] (p__law_end K) := ok__law_end T F__law_end
  have b__law_end : Binds K fd__law_end ["plan", "place"] [] := F__law_end.bindsN fun _ _ _ _ _ _ us hl => match us, hl with | [_, _], _ => rfl
  obtain ⟨fd__law_plan_told, F__law_plan_told⟩ := T.f__law_plan_told
  have G__law_plan_told : FnOk P w K mg base (L2.CX P w) 5 (He.ga K "_law_plan_told") fd__law_plan_told ["table", "plan", "which"] (p__law_plan_told K) := ok__law_plan_told T F__law_plan_told
  have b__law_plan_told : Binds K fd__law_plan_told ["table", "plan", "which"] [] := F__law_plan_told.bindsN fun _ _ _ _ _ _ us hl => match us, hl with | [_, _, _], _ => rfl
  obtain ⟨fd__law_same_row, F__law_same_row⟩ := T.f__law_same_row
  have G__law_same_row : FnOk P w K mg base (L2.CX P w) 2 (He.ga K "_law_same_row") fd__law_same_row ["told", "due"] (p__law_same_row K) := ok__law_same_row T F__law_same_row
  have b__law_same_row : Binds K fd__law_same_row ["told", "due"] [] := F__law_same_row.bindsN fun _ _ _ _ _ _ us hl => match us, hl with | [_, _], _ => rfl
  obtain ⟨fd__law_whole, F__law_whole⟩ := T.f__law_whole
  have G__law_whole : FnOk P w K mg base (L2.CX P w) 1 (He.ga K "_law_whole") fd__law_whole ["thing"] (p__law_whole K) := ok__law_whole T F__law_whole
  have b__law_whole : Binds K fd__law_whole ["thing"] [] := F__law_whole.bindsN fun _ _ _ _ _ _ us hl => match us, hl with | [_], _ => rfl
  obtain ⟨fd__law_wrong_in_plan, F__law_wrong_in_plan⟩ := T.f__law_wrong_in_plan
  have G__law_wrong_in_plan : FnOk P w K mg base (L2.CX P w) 2 (He.ga K "_law_wrong_in_plan") fd__law_wrong_in_plan ["plan"] (p__law_wrong_in_plan K) := ok__law_wrong_in_plan T F__law_wrong_in_plan
  have b__law_wrong_in_plan : Binds K fd__law_wrong_in_plan ["plan"] [] := F__law_wrong_in_plan.bindsN fun _ _ _ _ _ _ us hl => match us, hl with | [_], _ => rfl
  have sc := sc__law_plans_right
  refine F.ok sc (fun vs H Q E h => ?_) (fun cdv A outer s H vs Q E hr h => ?_)
  · obtain ⟨g, z, B, ss, _⟩ := h
    exact (Paired.length ss).trans rfl
  · obtain ⟨⟨table, plan⟩, z, B, ss, ex, hm, k⟩ := h
    obtain ⟨v0, v1, rfl, z0, z1⟩ := pn2 ss
    have hu := hr.units
    refine ⟨_, (pss_cons (ps_set (i := 2) sc.nd rfl (Or.inl rfl) (pe_callTy (clst (K := K) rfl) (by rfl) T.b_list (by decide +kernel) (pa_cons (pv 1) pa_nil))) (pss_cons (ps_set (i := 3) sc.nd rfl (Or.inl rfl) (pe_call G__law_wrong_in_plan (hr.mono (by decide)) (by rfl) T.m__law_wrong_in_plan F__law_wrong_in_plan.kp b__law_wrong_in_plan .nil passL (pa_cons (pv 1) pa_nil))) (pss_cons (ps_for (passes_of rfl) rfl (pi_range1 (by rfl) T.b_range (pa_cons pe_int pa_nil)) (pg_name (i := 4) sc.nd rfl (Or.inl rfl)) (pss_cons (ps_set (i := 5) sc.nd rfl (Or.inl rfl) (pe_call G__law_plan_told (hr.mono (by decide)) (by rfl) T.m__law_plan_told F__law_plan_told.kp b__law_plan_told .nil passL (pa_cons (pv 0) (pa_cons (pv 2) (pa_cons (pv 4) pa_nil))))) (pss_one (ps_if (pt_cmpR op_gt (pv 3) (pe_un un_neg pe_int) (nomark _)) (pss_one (ps_if (PW.pt (pw_or (pt_cmpR (opneD (K := K) rfl hu) (pv 5) (pe_tup (pa_cons pe_str (pa_cons (pv 3) pa_nil))) (nomark _)) (pw_or1 (pt_not (pt_val (pe_call G__law_whole (hr.mono (by decide)) (by rfl) T.m__law_whole F__law_whole.kp b__law_whole .nil passL (pa_cons (pe_ix (ixt (K := K) rfl) (pv 5) pe_int (fun _ _ => rfl)) pa_nil))))))) (pss_one (ps_ret pe_bl)) pss_nil)) (pss_one (ps_if (PW.pt (pw_and (pt_cmpR op_eq (pv 4) pe_int (nomark _)) (pw_and1 (pt_cmpR op_ne (pe_callB (clen (K := K) rfl) (by rfl) T.b_len (by decide +kernel) (pa_cons (pv 1) pa_nil)) (pe_callB (clen (K := K) rfl) (by rfl) T.b_len (by decide +kernel) (pa_cons (pv 0) pa_nil)) (nomark _))))) (pss_one (ps_if (pt_cmpR (opneD (K := K) rfl hu) (pv 5) (pe_tup (pa_cons pe_str (pa_cons (pe_callB (clen (K := K) rfl) (by rfl) T.b_len (by decide +kernel) (pa_cons (pv 1) pa_nil)) pa_nil))) (nomark _)) (pss_one (ps_ret pe_bl)) pss_nil)) (pss_one (ps_if (pt_cmpR (opneD (K := K) rfl hu) (pe_ix (ixt (K := K) rfl) (pv 5) pe_int (fun _ _ => rfl)) pe_str (nomark _)) (pss_one (ps_ret pe_bl)) (pss_one (ps_if (PW.pt (pw_and (pt_cmpR op_eq (pv 4) pe_int (nomark _)) (pw_and1 (pt_not (pt_val (pe_call G__law_same_row (hr.mono (by decide)) (by rfl) T.m__law_same_row F__law_same_row.kp b__law_same_row .nil passL (pa_cons (pe_ix (ixt (K := K) rfl) (pv 5) pe_int (fun _ _ => rfl)) (pa_cons (pe_lc (own := [("place", 6)]) (g := (gName 6)) (by rfl) sc.nd (pi_range1 (by rfl) T.b_range (pa_cons (pe_callB (clen (K := K) rfl) (by rfl) T.b_len (by decide +kernel) (pa_cons (pv 1) pa_nil)) pa_nil)) (blkOk_by (own := [("place", 6)]) (N := N__law_plans_right) (sc := defScope s__law_plans_right) (by decide +kernel)) (fun _ _ _ _ _ => pg_name (i := 6) sc.nd rfl (Or.inl rfl)) (fun _ _ _ _ _ => pts_nil) (fun _ _ _ _ _ => (pe_call G__law_end (hr.mono (by decide)) (by rfl) T.m__law_end F__law_end.kp b__law_end .nil passL (pa_cons (pv 1) (pa_cons (pv 6) pa_nil))))) pa_nil)))))))) (pss_one (ps_ret pe_bl)) (pss_one (ps_if (PW.pt (pw_and (pt_cmpR op_eq (pv 4) pe_int (nomark _)) (pw_and1 (pt_not (pt_val (pe_call G__law_same_row (hr.mono (by decide)) (by rfl) T.m__law_same_row F__law_same_row.kp b__law_same_row .nil passL (pa_cons (pe_ix (ixt (K := K) rfl) (pv 5) pe_int (fun _ _ => rfl)) (pa_cons (pe_lc (own := [("place", 6)]) (g := (gName 6)) (by rfl) sc.nd (pi_range1 (by rfl) T.b_range (pa_cons (pe_callB (clen (K := K) rfl) (by rfl) T.b_len (by decide +kernel) (pa_cons (pv 1) pa_nil)) pa_nil)) (blkOk_by (own := [("place", 6)]) (N := N__law_plans_right) (sc := defScope s__law_plans_right) (by decide +kernel)) (fun _ _ _ _ _ => pg_name (i := 6) sc.nd rfl (Or.inl rfl)) (fun _ _ _ _ _ => pts_one (pt_cmpR op_ne (pe_ix (ixl (K := K) rfl) (pv 1) (pv 6) (fun _ _ => rfl)) (pv 6) (nomark _))) (fun _ _ _ _ _ => (pv 6))) pa_nil)))))))) (pss_one (ps_ret pe_bl)) (pss_one (ps_if (pt_cmpR op_eq (pv 4) pe_int (nomark _)) (pss_cons (ps_set (i := 7) sc.nd rfl (Or.inl rfl) (pe_callB (csum (K := K) rfl rfl) (by rfl) T.b_sum (by decide +kernel) (pa_cons (pe_lc (own := [("place", 6)]) (g := (gName 6)) (by rfl) sc.nd (pi_range1 (by rfl) T.b_range (pa_cons (pe_callB (clen (K := K) rfl) (by rfl) T.b_len (by decide +kernel) (pa_cons (pv 1) pa_nil)) pa_nil)) (blkOk_by (own := [("place", 6)]) (N := N__law_plans_right) (sc := defScope s__law_plans_right) (by decide +kernel)) (fun _ _ _ _ _ => pg_name (i := 6) sc.nd rfl (Or.inl rfl)) (fun _ _ _ _ _ => pts_one (pt_cmpR op_ne (pe_ix (ixl (K := K) rfl) (pv 1) (pv 6) (fun _ _ => rfl)) (pv 6) (nomark _))) (fun _ _ _ _ _ => (pe_ix (ixl (K := K) rfl) (pe_ix (ixl (K := K) rfl) (pv 0) (pv 6) (fun _ _ => rfl)) (pe_ix (ixl (K := K) rfl) (pv 1) (pv 6) (fun _ _ => rfl)) (fun _ _ => rfl)))) pa_nil))) (pss_one (ps_if (PW.pt (pw_or (pt_not (pt_val (pe_call G__law_whole (hr.mono (by decide)) (by rfl) T.m__law_whole F__law_whole.kp b__law_whole .nil passL (pa_cons (pe_ix (ixt (K := K) rfl) (pv 5) pe_int (fun _ _ => rfl)) pa_nil)))) (pw_or1 (pt_cmpR op_ne (pe_ix (ixt (K := K) rfl) (pv 5) pe_int (fun _ _ => rfl)) (pv 7) (nomark _))))) (pss_one (ps_ret pe_bl)) pss_nil))) pss_nil)))))))))))))) (pss_one (ps_ret (pe_cmpR (opeqD (K := K) rfl hu) (pv 2) (pv 1) (nomark _))))))), ?_⟩
    have w := Wd.start (K := K) ex
    unfold m__law_plans_right at hm
    refine s_asg w ((ev_list (ev_var (S := (rLst rInt).s K plan) rfl z1) src_p).le sn_s) (fun v_2 B1 H1 x1 w1 h3 => ?_)
    obtain ⟨r4, e5, hm⟩ := ob hm
    refine s_asg w1 ((ev_call0 (g := plan) (ea_cons (ev_var (S := (rLst rInt).s K plan) rfl (Sv.mono _ x1 z1)) ea_nil) (al_p (fun _ z => z) al_nil) e5).le g_s) (fun v_7 B6 H6 x6 w6 h8 => ?_)
    obtain ⟨xs9, e10, hm⟩ := ob hm
    refine s_for (R := rInt) (oo := (fun (rr : Unit) => [])) (ρ0 := ()) (fun (which12 : Int) (_ : Unit) => ((m__law_plan_told (table, plan, which12)).bind fun r13 =>
cond (decide ((-(2 : Int)) < r4)) ((sndO inlO r13).bind fun t19 =>
(cond (!decide (t19 = (tg_plan, r4))) (some true) ((inlO r13.2).bind fun t21 => (m__law_whole t21).bind fun r23 => some (!r23))).bind fun b25 =>
cond b25 (some (.rt false)) (some (.nx ()))) (cond ((decide (which12 = (2 : Int))) && (!decide ((plan.length : Int) = (table.length : Int)))) ((sndO inlO r13).bind fun t30 =>
cond (!decide (t30 = (tg_size, (plan.length : Int)))) (some (.rt false)) (some (.nx ()))) (cond (!decide (r13.1 = tg_fine)) (some (.rt false)) ((cond (decide (which12 = (0 : Int))) ((inrO r13.2).bind fun t36 => (rngO (0 : Int) (plan.length : Int)).bind fun xs38 => (lcO (fun (place : Int) (rr : Unit) => match rr with | () => some (true, ())) (fun (place : Int) (rr : Unit) => match rr with | () => (m__law_end (plan, place)).bind fun r40 => some (r40, ())) xs38 ()).bind fun (ys42, _) => (m__law_same_row (t36, ys42)).bind fun r44 => some (!r44)) (some false)).bind fun b46 =>
cond b46 (some (.rt false)) ((cond (decide (which12 = (1 : Int))) ((inrO r13.2).bind fun t50 => (rngO (0 : Int) (plan.length : Int)).bind fun xs52 => (lcO (fun (place : Int) (rr : Unit) => match rr with | () => (atI plan place).bind fun t54 => some ((!decide (t54 = place)), ())) (fun (place : Int) (rr : Unit) => match rr with | () => some (place, ())) xs52 ()).bind fun (ys56, _) => (m__law_same_row (t50, ys56)).bind fun r58 => some (!r58)) (some false)).bind fun b60 =>
cond b60 (some (.rt false)) (cond (decide (which12 = (2 : Int))) ((rngO (0 : Int) (plan.length : Int)).bind fun xs65 =>
(lcO (fun (place : Int) (rr : Unit) => match rr with | () => (atI plan place).bind fun t67 => some ((!decide (t67 = place)), ())) (fun (place : Int) (rr : Unit) => match rr with | () => (atI table place).bind fun t69 => (atI plan place).bind fun t71 => (atI t69 t71).bind fun t73 => some (t73, ())) xs65 ()).bind fun (ys75, _) =>
(inlO r13.2).bind fun t80 =>
(m__law_whole t80).bind fun r82 =>
(cond (!r82) (some true) ((inlO r13.2).bind fun t84 => some (!decide (t84 = ys75.sum)))).bind fun b86 =>
cond b86 (some (.rt false)) (some (.nx ()))) (some (.nx ()))))))) : Option (Ctl Unit Bool))) (fun (_ : Unit) σ' B' => ∃ o_4 : Option V, ∃ o_5 : Option V, ∃ o_6 : Option V, ∃ o_7 : Option V, σ' = [some v0, some v1, some v_2, some v_7, o_4, o_5, o_6, o_7]) (fun zz => finK _ _ zz = some _) w6 (ei_r1 ev_int e10) (fun rr σ' B1 B2 e ⟨o_4, o_5, o_6, o_7, hσ⟩ => ⟨o_4, o_5, o_6, o_7, hσ⟩) (fun B2 e => ⟨_, _, _, _, rfl⟩) hm ?_ ?_
    · rintro which12 rst rr vx11 σ' Bt11 Ht11 xt11 wt11 ⟨o_4t11, o_5t11, o_6t11, o_7t11, rfl⟩ hx11 hf N hN dn
      dsimp only [gName]
      obtain ⟨ctl, hfx, hbk11, hrt11⟩ := forL_step hf
      have hm := hfx
      obtain ⟨r13, e14, hm⟩ := ob hm
      refine s_asg wt11 (ev_call0a (g := (table, plan, which12)) (ea_cons (ev_var (S := (rLst (rLst rInt)).s K table) rfl (Sv.mono _ xt11 (Sv.mono _ x6 (Sv.mono _ x1 z0)))) (ea_cons (ev_var (S := (rLst rInt).s K plan) rfl (Sv.mono _ xt11 (Sv.mono _ x6 h3))) (ea_cons (ev_var (S := rInt.s K which12) rfl hx11) ea_nil))) (al_p (fun _ z => absurd z List.not_mem_nil) (al_p (fun _ z => absurd z List.not_mem_nil) (al_p (fun _ z => absurd z List.not_mem_nil) al_nil))) e14) (fun v_16 B15 H15 x15 w15 h17 => ?_)
      try dsimp only
      refine s_if w15 (et_test (ev_gt (ev_var (S := rInt.s K r4) rfl (Sv.mono _ x15 (Sv.mono _ xt11 h8))) (ev_neg ev_int))) (fun hb B18 H18 x18 w18 => ?_) (fun hb B18 H18 x18 w18 => ?_)
      · have hm := it hb hm
        obtain ⟨t19, e20, hm⟩ := ob hm
        obtain ⟨b25, e26, hm⟩ := ob hm
        try dsimp only
        refine s_if w18 (et_orO (b := b25) (et_test (ev_neD (dqT2 dqTag dqInt) ((ev_var (S := (rT2 rTag (rEi rInt (rLst rInt))).s K r13) rfl (Sv.mono _ x18 h17)).le (c_T2 (fun _ _ h_ => (c_inl h_)) e20)) (ev_T2 (ea_cons (ev_tag tg_plan) (ea_cons (ev_var (S := rInt.s K r4) rfl (Sv.mono _ x18 (Sv.mono _ x15 (Sv.mono _ xt11 h8)))) ea_nil))) srd_s srd_s)) (fun hc => by have e26 := ie hc e26; obtain ⟨t21, e22, e26⟩ := ob e26; obtain ⟨r23, e24, e26⟩ := ob e26; have hq_ := Option.some.inj e26; subst hq_; exact (et_not (et_B ((ev_call0 (g := t21) (ea_cons ((ev_T2b (ev_var (S := (rT2 rTag (rEi rInt (rLst rInt))).s K r13) rfl (Sv.mono _ x18 h17))).le (c_inl e22)) ea_nil) (al_p (fun _ z => z) al_nil) e24).le g_s)))) (fun hc => by have e26 := it hc e26; cases e26; exact ⟨rfl, rfl⟩)) (fun hb B27 H27 x27 w27 => ?_) (fun hb B27 H27 x27 w27 => ?_)
        · have hm := it hb hm
          refine s_ret w27 ev_bl (fun vv B28 H28 x28 w28 hv => ?_)
          cases hm
          replace hm := hrt11 _ rfl
          cases hm
          exact k _ _ _ w28.st w28.ex ((imm_flat _) _ _ _ _ _ hv)
        · have hm := ie hb hm
          have hq_ := Option.some.inj hm
          subst hq_
          exact hN () _ _ _ hfx ((x15.trans x18).trans x27) w27 ⟨_, _, _, _, rfl⟩
      · have hm := ie hb hm
        try dsimp only
        refine s_if w18 (et_and (et_test (ev_eqI (ev_var (S := rInt.s K which12) rfl (Sv.mono _ x18 (Sv.mono _ x15 hx11))) ev_int)) (fun _ => (et_test (ev_neI (ev_len (ev_var (S := (rLst rInt).s K plan) rfl (Sv.mono _ x18 (Sv.mono _ x15 (Sv.mono _ xt11 (Sv.mono _ x6 (Sv.mono _ x1 z1)))))) src_p) (ev_len (ev_var (S := (rLst (rLst rInt)).s K table) rfl (Sv.mono _ x18 (Sv.mono _ x15 (Sv.mono _ xt11 (Sv.mono _ x6 (Sv.mono _ x1 z0)))))) src_p)))) (fun _ => rfl)) (fun hb B29 H29 x29 w29 => ?_) (fun hb B29 H29 x29 w29 => ?_)
        · have hm := it hb hm
          obtain ⟨t30, e31, hm⟩ := ob hm
          try dsimp only
          refine s_if w29 (et_test (ev_neD (dqT2 dqTag dqInt) ((ev_var (S := (rT2 rTag (rEi rInt (rLst rInt))).s K r13) rfl (Sv.mono _ x29 (Sv.mono _ x18 h17))).le (c_T2 (fun _ _ h_ => (c_inl h_)) e31)) (ev_T2 (ea_cons (ev_tag tg_size) (ea_cons (ev_len (ev_var (S := (rLst rInt).s K plan) rfl (Sv.mono _ x29 (Sv.mono _ x18 (Sv.mono _ x15 (Sv.mono _ xt11 (Sv.mono _ x6 (Sv.mono _ x1 z1))))))) src_p) ea_nil))) srd_s srd_s)) (fun hb B32 H32 x32 w32 => ?_) (fun hb B32 H32 x32 w32 => ?_)
          · have hm := it hb hm
            refine s_ret w32 ev_bl (fun vv B33 H33 x33 w33 hv => ?_)
            cases hm
            replace hm := hrt11 _ rfl
            cases hm
            exact k _ _ _ w33.st w33.ex ((imm_flat _) _ _ _ _ _ hv)
          · have hm := ie hb hm
            have hq_ := Option.some.inj hm
            subst hq_
            exact hN () _ _ _ hfx (((x15.trans x18).trans x29).trans x32) w32 ⟨_, _, _, _, rfl⟩
        · have hm := ie hb hm
          try dsimp only
          refine s_if w29 (et_test (ev_neD dqTag (ev_T2a (ev_var (S := (rT2 rTag (rEi rInt (rLst rInt))).s K r13) rfl (Sv.mono _ x29 (Sv.mono _ x18 h17)))) (ev_tag tg_fine) srd_s srd_s)) (fun hb B34 H34 x34 w34 => ?_) (fun hb B34 H34 x34 w34 => ?_)
          · have hm := it hb hm
            refine s_ret w34 ev_bl (fun vv B35 H35 x35 w35 hv => ?_)
            cases hm
            replace hm := hrt11 _ rfl
            cases hm
            exact k _ _ _ w35.st w35.ex ((imm_flat _) _ _ _ _ _ hv)
          · have hm := ie hb hm
            obtain ⟨b46, e47, hm⟩ := ob hm
            try dsimp only
            refine s_if w34 (et_andO (b := b46) (et_test (ev_eqI (ev_var (S := rInt.s K which12) rfl (Sv.mono _ x34 (Sv.mono _ x29 (Sv.mono _ x18 (Sv.mono _ x15 hx11))))) ev_int)) (fun hc => by have e47 := it hc e47; obtain ⟨t36, e37, e47⟩ := ob e47; obtain ⟨xs38, e39, e47⟩ := ob e47; obtain ⟨⟨ys42, _⟩, e43, e47⟩ := ob e47; try dsimp only at e47; obtain ⟨r44, e45, e47⟩ := ob e47; have hq_ := Option.some.inj e47; subst hq_; exact (et_not (et_B ((ev_call0 (g := (t36, ys42)) (ea_cons ((ev_T2b (ev_var (S := (rT2 rTag (rEi rInt (rLst rInt))).s K r13) rfl (Sv.mono _ x34 (Sv.mono _ x29 (Sv.mono _ x18 h17))))).le (c_inr e37)) (ea_cons (ev_lc (R := rInt) (R' := rInt) (oo := (fun (rr : Unit) => [])) (fun (place : Int) (rr : Unit) => match rr with | () => some (true, ())) (fun (place : Int) (rr : Unit) => match rr with | () => (m__law_end (plan, place)).bind fun r40 => some (r40, ())) (lcT rInt K _ 6 [6]) (ei_r1 (ev_len (ev_var (S := (rLst rInt).s K plan) rfl (Sv.mono _ x34 (Sv.mono _ x29 (Sv.mono _ x18 (Sv.mono _ x15 (Sv.mono _ xt11 (Sv.mono _ x6 (Sv.mono _ x1 z1)))))))) src_p) e39) e43 (lcT_mono _ _ _ _ _) (lcT_name rfl 6 [6] (by intro x; rfl)) (fun place rr bb r1 σ2 B' pD acc ht eB ⟨vx, hσ, hx⟩ => by cases ht; exact et_yes) (fun place rr yy r1 σ2 B' pD acc he eB ⟨vx, hσ, hx⟩ => by subst hσ; obtain ⟨r40, e41, he⟩ := ob he; cases he; exact ((ev_call0 (g := (plan, place)) (ea_cons (ev_var (S := (rLst rInt).s K plan) rfl (Sv.mono _ eB (Sv.mono _ x34 (Sv.mono _ x29 (Sv.mono _ x18 (Sv.mono _ x15 (Sv.mono _ xt11 (Sv.mono _ x6 (Sv.mono _ x1 z1))))))))) (ea_cons (ev_var (S := rInt.s K place) rfl hx) ea_nil)) (al_p (fun _ z => z) (al_p (fun _ z => z) al_nil)) e41).le g_s))) ea_nil)) (al_p (fun _ z => z) (al_le sn_s (fun _ z => z) al_nil)) e45).le g_s)))) (fun hc => by have e47 := ie hc e47; cases e47; exact ⟨rfl, rfl⟩)) (fun hb B48 H48 x48 w48 => ?_) (fun hb B48 H48 x48 w48 => ?_)
            · have hm := it hb hm
              refine s_ret w48 ev_bl (fun vv B49 H49 x49 w49 hv => ?_)
              cases hm
              replace hm := hrt11 _ rfl
              cases hm
              exact k _ _ _ w49.st w49.ex ((imm_flat _) _ _ _ _ _ hv)
            · have hm := ie hb hm
              obtain ⟨b60, e61, hm⟩ := ob hm
              try dsimp only
              refine s_if w48 (et_andO (b := b60) (et_test (ev_eqI (ev_var (S := rInt.s K which12) rfl (Sv.mono _ x48 (Sv.mono _ x34 (Sv.mono _ x29 (Sv.mono _ x18 (Sv.mono _ x15 hx11)))))) ev_int)) (fun hc => by have e61 := it hc e61; obtain ⟨t50, e51, e61⟩ := ob e61; obtain ⟨xs52, e53, e61⟩ := ob e61; obtain ⟨⟨ys56, _⟩, e57, e61⟩ := ob e61; try dsimp only at e61; obtain ⟨r58, e59, e61⟩ := ob e61; have hq_ := Option.some.inj e61; subst hq_; exact (et_not (et_B ((ev_call0 (g := (t50, ys56)) (ea_cons ((ev_T2b (ev_var (S := (rT2 rTag (rEi rInt (rLst rInt))).s K r13) rfl (Sv.mono _ x48 (Sv.mono _ x34 (Sv.mono _ x29 (Sv.mono _ x18 h17)))))).le (c_inr e51)) (ea_cons (ev_lc (R := rInt) (R' := rInt) (oo := (fun (rr : Unit) => [])) (fun (place : Int) (rr : Unit) => match rr with | () => (atI plan place).bind fun t54 => some ((!decide (t54 = place)), ())) (fun (place : Int) (rr : Unit) => match rr with | () => some (place, ())) (lcT rInt K _ 6 [6]) (ei_r1 (ev_len (ev_var (S := (rLst rInt).s K plan) rfl (Sv.mono _ x48 (Sv.mono _ x34 (Sv.mono _ x29 (Sv.mono _ x18 (Sv.mono _ x15 (Sv.mono _ xt11 (Sv.mono _ x6 (Sv.mono _ x1 z1))))))))) src_p) e53) e57 (lcT_mono _ _ _ _ _) (lcT_name rfl 6 [6] (by intro x; rfl)) (fun place rr bb r1 σ2 B' pD acc ht eB ⟨vx, hσ, hx⟩ => by subst hσ; obtain ⟨t54, e55, ht⟩ := ob ht; cases ht; exact (et_test (ev_neI (ev_ix (ev_var (S := (rLst rInt).s K plan) rfl (Sv.mono _ eB (Sv.mono _ x48 (Sv.mono _ x34 (Sv.mono _ x29 (Sv.mono _ x18 (Sv.mono _ x15 (Sv.mono _ xt11 (Sv.mono _ x6 (Sv.mono _ x1 z1)))))))))) (ev_var (S := rInt.s K place) rfl hx) src_p e55) (ev_var (S := rInt.s K place) rfl hx)))) (fun place rr yy r1 σ2 B' pD acc he eB ⟨vx, hσ, hx⟩ => by subst hσ; cases he; exact (ev_var (S := rInt.s K place) rfl hx))) ea_nil)) (al_p (fun _ z => z) (al_le sn_s (fun _ z => z) al_nil)) e59).le g_s)))) (fun hc => by have e61 := ie hc e61; cases e61; exact ⟨rfl, rfl⟩)) (fun hb B62 H62 x62 w62 => ?_) (fun hb B62 H62 x62 w62 => ?_)
              · have hm := it hb hm
                refine s_ret w62 ev_bl (fun vv B63 H63 x63 w63 hv => ?_)
                cases hm
                replace hm := hrt11 _ rfl
                cases hm
                exact k _ _ _ w63.st w63.ex ((imm_flat _) _ _ _ _ _ hv)
              · have hm := ie hb hm
                try dsimp only
                refine s_if w62 (et_test (ev_eqI (ev_var (S := rInt.s K which12) rfl (Sv.mono _ x62 (Sv.mono _ x48 (Sv.mono _ x34 (Sv.mono _ x29 (Sv.mono _ x18 (Sv.mono _ x15 hx11))))))) ev_int)) (fun hb B64 H64 x64 w64 => ?_) (fun hb B64 H64 x64 w64 => ?_)
                · have hm := it hb hm
                  obtain ⟨xs65, e66, hm⟩ := ob hm
                  obtain ⟨⟨ys75, _⟩, e76, hm⟩ := ob hm
                  try dsimp only at hm
                  refine s_asg w64 (ev_sum (ev_lc (R := rInt) (R' := rInt) (oo := (fun (rr : Unit) => [])) (fun (place : Int) (rr : Unit) => match rr with | () => (atI plan place).bind fun t67 => some ((!decide (t67 = place)), ())) (fun (place : Int) (rr : Unit) => match rr with | () => (atI table place).bind fun t69 => (atI plan place).bind fun t71 => (atI t69 t71).bind fun t73 => some (t73, ())) (lcT rInt K _ 6 [6]) (ei_r1 (ev_len (ev_var (S := (rLst rInt).s K plan) rfl (Sv.mono _ x64 (Sv.mono _ x62 (Sv.mono _ x48 (Sv.mono _ x34 (Sv.mono _ x29 (Sv.mono _ x18 (Sv.mono _ x15 (Sv.mono _ xt11 (Sv.mono _ x6 (Sv.mono _ x1 z1))))))))))) src_p) e66) e76 (lcT_mono _ _ _ _ _) (lcT_name rfl 6 [6] (by intro x; rfl)) (fun place rr bb r1 σ2 B' pD acc ht eB ⟨vx, hσ, hx⟩ => by subst hσ; obtain ⟨t67, e68, ht⟩ := ob ht; cases ht; exact (et_test (ev_neI (ev_ix (ev_var (S := (rLst rInt).s K plan) rfl (Sv.mono _ eB (Sv.mono _ x64 (Sv.mono _ x62 (Sv.mono _ x48 (Sv.mono _ x34 (Sv.mono _ x29 (Sv.mono _ x18 (Sv.mono _ x15 (Sv.mono _ xt11 (Sv.mono _ x6 (Sv.mono _ x1 z1)))))))))))) (ev_var (S := rInt.s K place) rfl hx) src_p e68) (ev_var (S := rInt.s K place) rfl hx)))) (fun place rr yy r1 σ2 B' pD acc he eB ⟨vx, hσ, hx⟩ => by subst hσ; obtain ⟨t69, e70, he⟩ := ob he; obtain ⟨t71, e72, he⟩ := ob he; obtain ⟨t73, e74, he⟩ := ob he; cases he; exact (ev_ix (ev_ix (ev_var (S := (rLst (rLst rInt)).s K table) rfl (Sv.mono _ eB (Sv.mono _ x64 (Sv.mono _ x62 (Sv.mono _ x48 (Sv.mono _ x34 (Sv.mono _ x29 (Sv.mono _ x18 (Sv.mono _ x15 (Sv.mono _ xt11 (Sv.mono _ x6 (Sv.mono _ x1 z0)))))))))))) (ev_var (S := rInt.s K place) rfl hx) src_p e70) (ev_ix (ev_var (S := (rLst rInt).s K plan) rfl (Sv.mono _ eB (Sv.mono _ x64 (Sv.mono _ x62 (Sv.mono _ x48 (Sv.mono _ x34 (Sv.mono _ x29 (Sv.mono _ x18 (Sv.mono _ x15 (Sv.mono _ xt11 (Sv.mono _ x6 (Sv.mono _ x1 z1)))))))))))) (ev_var (S := rInt.s K place) rfl hx) src_p e72) src_p e74))) src_n) (fun v_78 B77 H77 x77 w77 h79 => ?_)
                  obtain ⟨t80, e81, hm⟩ := ob hm
                  obtain ⟨r82, e83, hm⟩ := ob hm
                  obtain ⟨b86, e87, hm⟩ := ob hm
                  try dsimp only
                  refine s_if w77 (et_orO (b := b86) (et_not (et_B ((ev_call0 (g := t80) (ea_cons ((ev_T2b (ev_var (S := (rT2 rTag (rEi rInt (rLst rInt))).s K r13) rfl (Sv.mono _ x77 (Sv.mono _ x64 (Sv.mono _ x62 (Sv.mono _ x48 (Sv.mono _ x34 (Sv.mono _ x29 (Sv.mono _ x18 h17))))))))).le (c_inl e81)) ea_nil) (al_p (fun _ z => z) al_nil) e83).le g_s))) (fun hc => by have e87 := ie hc e87; obtain ⟨t84, e85, e87⟩ := ob e87; have hq_ := Option.some.inj e87; subst hq_; exact (et_test (ev_neI ((ev_T2b (ev_var (S := (rT2 rTag (rEi rInt (rLst rInt))).s K r13) rfl (Sv.mono _ x77 (Sv.mono _ x64 (Sv.mono _ x62 (Sv.mono _ x48 (Sv.mono _ x34 (Sv.mono _ x29 (Sv.mono _ x18 h17))))))))).le (c_inl e85)) (ev_var (S := rInt.s K ys75.sum) rfl h79)))) (fun hc => by have e87 := it hc e87; cases e87; exact ⟨rfl, rfl⟩)) (fun hb B88 H88 x88 w88 => ?_) (fun hb B88 H88 x88 w88 => ?_)
                  · have hm := it hb hm
                    refine s_ret w88 ev_bl (fun vv B89 H89 x89 w89 hv => ?_)
                    cases hm
                    replace hm := hrt11 _ rfl
                    cases hm
                    exact k _ _ _ w89.st w89.ex ((imm_flat _) _ _ _ _ _ hv)
                  · have hm := ie hb hm
                    have hq_ := Option.some.inj hm
                    subst hq_
                    exact hN () _ _ _ hfx ((((((((x15.trans x18).trans x29).trans x34).trans x48).trans x62).trans x64).trans x77).trans x88) w88 ⟨_, _, _, _, rfl⟩
                · have hm := ie hb hm
                  have hq_ := Option.some.inj hm
                  subst hq_
                  exact hN () _ _ _ hfx ((((((x15.trans x18).trans x29).trans x34).trans x48).trans x62).trans x64) w64 ⟨_, _, _, _, rfl⟩
    · rintro rr σ' B90 H90 x90 w90 ⟨o_4k91, o_5k91, o_6k91, o_7k91, rfl⟩ hm
      try dsimp only
      replace hm := finK_nx hm
      refine s_ret w90 (ev_eqD (dqLst dqInt) (ev_var (S := (rLst rInt).s K plan) rfl (Sv.mono _ x90 (Sv.mono _ x6 h3))) (ev_var (S := (rLst rInt).s K plan) rfl (Sv.mono _ x90 (Sv.mono _ x6 (Sv.mono _ x1 z1)))) srd_s srd_s) (fun vv B92 H92 x92 w92 hv => ?_)
      cases hm
      exact k _ _ _ w92.st w92.ex ((imm_flat _) _ _ _ _ _ hv)
def m__law_bill_told : (List (List Int)) × (List Int) × (List ((List Int) × Int)) → Option (Tag × (Int ⊕ Bool)) := fun (table, shut, parts) =>
  (m_bill_holds (table, shut, parts)).bind fun rx => match rx with
  | .error r4 => (xM (xIs "BadPlace" "place" r4) (fun n7 => (some (tg_place, (Sum.inl n7)))) (xM (xIs "BadSize" "size" r4) (fun n17 => (some (tg_other, (Sum.inl (1 : Int))))) (xM (xIs "BadNumber" "number" r4) (fun n27 => (some (tg_other, (Sum.inl (1 : Int))))) (xM (xIs "BadTolls" "place" r4) (fun n37 => (some (tg_other, (Sum.inl (1 : Int))))) (xM (xIs "BadPlan" "place" r4) (fun n47 => (some (tg_other, (Sum.inl (1 : Int))))) (none))))))
  | .ok r4 => (some (tg_holds, (Sum.inr r4)))
def p__law_bill_told (K : Fg) : Sp := Pr0 K (fun (g : (List (List Int)) × (List Int) × (List ((List Int) × Int))) => [(rLst (rLst rInt)).s K g.1, (rLst rInt).s K g.2.1, (rLst (rT2 (rTpl rInt) rInt)).s K g.2.2]) m__law_bill_told (rT2 rTag (rEi rInt rBool))
abbrev N__law_bill_told : List Str := ["table", "shut", "parts", "told", "e"]
theorem sc__law_bill_told : FnScope N__law_bill_told ["table", "shut", "parts"] (defScope s__law_bill_told) := ⟨rfl, rfl, rfl, by decide +kernel, rfl, by decide +kernel, by decide +kernel⟩
theorem ok__law_bill_told {P : Program} {w : World} {K : Fg} {mg : Str → Option Value} {base : Heap} (T : Tx P K mg) {fd : FuncData} (F : FnP K "_law_bill_told" s__law_bill_told (He.ga K "_law_bill_told") fd) : FnOk P w K mg base (L2.CX P w) 5 (He.ga K "_law_bill_told") fd ["table", "shut", "parts"] (p__law_bill_told K) := by
  obtain ⟨fd_bill_holds, F_bill_holds⟩ := T.f_bill_holds
  have G_bill_holds : FnOk P w K mg base (L2.CX P w) 4 (He.ga K "bill_holds") fd_bill_holds ["tolls", "shut", "parts"] (p_bill_holds K) := ok_bill_holds T F_bill_holds
  have b_bill_holds : Binds K fd_bill_holds ["tolls", "shut", "parts"] [] := F_bill_holds.bindsN fun _ _ _ _ _ _ us hl => match us, hl with | [_, _, _], _ => rfl
  have sc := sc__law_bill_told
  refine F.ok sc (fun vs H Q E h => ?_) (fun cdv A outer s H vs Q E hr h => ?_)
  · obtain ⟨g, z, B, ss, _⟩ := h
    exact (Paired.length ss).trans rfl
  · obtain ⟨⟨table, shut, parts⟩, z, B, ss, ex, hm, k⟩ := h
    obtain ⟨v0, v1, v2, rfl, z0, z1, z2⟩ := pn3 ss
    refine ⟨_, (pss_cons (ps_set (i := 3) sc.nd rfl (Or.inl rfl) (pe_tup (pa_cons pe_str (pa_cons pe_int pa_nil)))) (pss_cons (ps_try_hs rfl rfl tk0 (fun W pn xe tk_ _ => (pss_one (ps_set (i := 3) sc.nd rfl (Or.inl rfl) (pe_tup (pa_cons pe_str (pa_cons (pe_callS G_bill_holds (hr.mono (by decide)) (by rfl) T.m_bill_holds F_bill_holds.kp b_bill_holds (fun σ_ => passAt tk_ σ_) (pa_cons (pv 0) (pa_cons (pv 1) (pa_cons (pv 2) pa_nil)))) pa_nil)))))) (HdA.a (i := 4) sc.nd rfl rfl ⟨by rfl, by decide, Or.inl T.g_BadPlace⟩ (fun a oe cls d pn hz hf => (pss_one (ps_set (i := 3) sc.nd rfl (Or.inl rfl) (pe_tup (pa_cons pe_str (pa_cons (pe_xf (C := He.ga K "BadPlace") T.xf_BadPlace T.no_BadPlace hz hf (pv 4)) pa_nil)))))) (HdA.p ⟨by rfl, by decide, Or.inl T.g_TiedError⟩ (fun a oe cls d pn hz hf => (pss_one (ps_set (i := 3) sc.nd rfl (Or.inl rfl) (pe_tup (pa_cons pe_str (pa_cons pe_int pa_nil)))))) HdA.nil))) (pss_one (ps_ret (pv 3))))), ?_⟩
    have w := Wd.start (K := K) ex
    unfold m__law_bill_told at hm
    refine s_asg w (ev_T2 (ea_cons (ev_tag tg_other) (ea_cons (ev_int.le (s_inl (R := rInt) (R' := rBool))) ea_nil))) (fun v_2 B1 H1 x1 w1 h3 => ?_)
    obtain ⟨r4, e5, hm⟩ := ob hm
    cases r4 with
    | error r4 =>
      try dsimp only [tAsg, tTup, tCons, tC, tDrop, tIfS, tTest, tOp, tB, tNot]
      refine callS w1 (ea_cons (ev_var (S := (rLst (rLst rInt)).s K table) rfl (Sv.mono _ x1 z0)) (ea_cons (ev_var (S := (rLst rInt).s K shut) rfl (Sv.mono _ x1 z1)) (ea_cons (ev_var (S := (rLst (rT2 (rTpl rInt) rInt)).s K parts) rfl (Sv.mono _ x1 z2)) ea_nil))) (al_p (fun _ z => z) (al_p (fun _ z => z) (al_p (fun _ z => z) al_nil))) e5 (fun cls d B6 H6 x6 w6 hx => ?_)
      cases hx8 : xIs "BadPlace" "place" r4 with
      | some n7 =>
        replace hm := xM_some hx8 hm
        obtain rfl := xIs_eq hx8
        obtain ⟨rfl, dd10, rfl, hd9⟩ := hx
        refine wH_yesA T.x_BadPlace_BadPlace (fun a11 na12 => ?_)
        refine s_asg w6 (ev_T2 (ea_cons (ev_tag tg_place) (ea_cons ((ev_fld (C := He.ga K "BadPlace") (ev_var (S := SA a11) rfl rfl) hd9).le (s_inl (R := rInt) (R' := rBool))) ea_nil))) (fun v_14 B13 H13 x13 w13 h15 => ?_)
        try dsimp only [goneE]
        refine s_ret w13 (ev_var (S := (rT2 rTag (rEi rInt rBool)).s K (tg_place, (Sum.inl n7))) rfl h15) (fun vv B16 H16 x16 w16 hv => ?_)
        cases hm
        exact k _ _ _ w16.st w16.ex ((imm_T2 (imm_flat _) (imm_Ei (imm_flat _) (imm_flat _))) _ _ _ _ _ hv)
      | none =>
        replace hm := xM_none hx8 hm
        cases hx18 : xIs "BadSize" "size" r4 with
        | some n17 =>
          replace hm := xM_some hx18 hm
          obtain rfl := xIs_eq hx18
          obtain ⟨rfl, dd20, rfl, hd19⟩ := hx
          refine wH_noA T.x_BadSize_BadPlace ?_
          refine wH_yes T.x_BadSize_TiedError (fun a21 na22 => ?_)
          refine s_asg w6 (ev_T2 (ea_cons (ev_tag tg_other) (ea_cons (ev_int.le (s_inl (R := rInt) (R' := rBool))) ea_nil))) (fun v_24 B23 H23 x23 w23 h25 => ?_)
          try dsimp only [goneE]
          refine s_ret w23 (ev_var (S := (rT2 rTag (rEi rInt rBool)).s K (tg_other, (Sum.inl (1 : Int)))) rfl h25) (fun vv B26 H26 x26 w26 hv => ?_)
          cases hm
          exact k _ _ _ w26.st w26.ex ((imm_T2 (imm_flat _) (imm_Ei (imm_flat _) (imm_flat _))) _ _ _ _ _ hv)
        | none =>
          replace hm := xM_none hx18 hm
          cases hx28 : xIs "BadNumber" "number" r4 with
          | some n27 =>
            replace hm := xM_some hx28 hm
            obtain rfl := xIs_eq hx28
            obtain ⟨rfl, dd30, rfl, hd29⟩ := hx
            refine wH_noA T.x_BadNumber_BadPlace ?_
            refine wH_yes T.x_BadNumber_TiedError (fun a31 na32 => ?_)
            refine s_asg w6 (ev_T2 (ea_cons (ev_tag tg_other) (ea_cons (ev_int.le (s_inl (R := rInt) (R' := rBool))) ea_nil))) (fun v_34 B33 H33 x33 w33 h35 => ?_)
            try dsimp only [goneE]
            refine s_ret w33 (ev_var (S := (rT2 rTag (rEi rInt rBool)).s K (tg_other, (Sum.inl (1 : Int)))) rfl h35) (fun vv B36 H36 x36 w36 hv => ?_)
            cases hm
            exact k _ _ _ w36.st w36.ex ((imm_T2 (imm_flat _) (imm_Ei (imm_flat _) (imm_flat _))) _ _ _ _ _ hv)
          | none =>
            replace hm := xM_none hx28 hm
            cases hx38 : xIs "BadTolls" "place" r4 with
            | some n37 =>
              replace hm := xM_some hx38 hm
              obtain rfl := xIs_eq hx38
              obtain ⟨rfl, dd40, rfl, hd39⟩ := hx
              refine wH_noA T.x_BadTolls_BadPlace ?_
              refine wH_yes T.x_BadTolls_TiedError (fun a41 na42 => ?_)
              refine s_asg w6 (ev_T2 (ea_cons (ev_tag tg_other) (ea_cons (ev_int.le (s_inl (R := rInt) (R' := rBool))) ea_nil))) (fun v_44 B43 H43 x43 w43 h45 => ?_)
              try dsimp only [goneE]
              refine s_ret w43 (ev_var (S := (rT2 rTag (rEi rInt rBool)).s K (tg_other, (Sum.inl (1 : Int)))) rfl h45) (fun vv B46 H46 x46 w46 hv => ?_)
              cases hm
              exact k _ _ _ w46.st w46.ex ((imm_T2 (imm_flat _) (imm_Ei (imm_flat _) (imm_flat _))) _ _ _ _ _ hv)
            | none =>
              replace hm := xM_none hx38 hm
              cases hx48 : xIs "BadPlan" "place" r4 with
              | some n47 =>
                replace hm := xM_some hx48 hm
                obtain rfl := xIs_eq hx48
                obtain ⟨rfl, dd50, rfl, hd49⟩ := hx
                refine wH_noA T.x_BadPlan_BadPlace ?_
                refine wH_yes T.x_BadPlan_TiedError (fun a51 na52 => ?_)
                refine s_asg w6 (ev_T2 (ea_cons (ev_tag tg_other) (ea_cons (ev_int.le (s_inl (R := rInt) (R' := rBool))) ea_nil))) (fun v_54 B53 H53 x53 w53 h55 => ?_)
                try dsimp only [goneE]
                refine s_ret w53 (ev_var (S := (rT2 rTag (rEi rInt rBool)).s K (tg_other, (Sum.inl (1 : Int)))) rfl h55) (fun vv B56 H56 x56 w56 hv => ?_)
                cases hm
                exact k _ _ _ w56.st w56.ex ((imm_T2 (imm_flat _) (imm_Ei (imm_flat _) (imm_flat _))) _ _ _ _ _ hv)
              | none =>
                replace hm := xM_none hx48 hm
                cases hm
    | ok r4 =>
      refine s_asg w1 (ev_T2 (ea_cons (ev_tag tg_holds) (ea_cons (((ev_callSok (g := (table, shut, parts)) (ea_cons (ev_var (S := (rLst (rLst rInt)).s K table) rfl (Sv.mono _ x1 z0)) (ea_cons (ev_var (S := (rLst rInt).s K shut) rfl (Sv.mono _ x1 z1)) (ea_cons (ev_var (S := (rLst (rT2 (rTpl rInt) rInt)).s K parts) rfl (Sv.mono _ x1 z2)) ea_nil))) (al_p (fun _ z => z) (al_p (fun _ z => z) (al_p (fun _ z => z) al_nil))) e5).le g_s).le (s_inr (R := rInt) (R' := rBool))) ea_nil))) (fun v_58 B57 H57 x57 w57 h59 => ?_)
      refine s_ret w57 (ev_var (S := (rT2 rTag (rEi rInt rBool)).s K (tg_holds, (Sum.inr r4))) rfl h59) (fun vv B60 H60 x60 w60 hv => ?_)
      cases hm
      exact k _ _ _ w60.st w60.ex ((imm_T2 (imm_flat _) (imm_Ei (imm_flat _) (imm_flat _))) _ _ _ _ _ hv)
def m__law_bills_right : (List Int) × (List (List Int)) → Option (Bool × (List Int)) := fun (state, table) =>
  (m__law_set (state, (table.length : Int))).bind fun (r4, state6) =>
  (m__law_order (state6, r4)).bind fun (r7, state9) =>
  cond (decide ((r7.length : Int) = (0 : Int))) ((m__law_bill_told (table, ([] : List Int), ([] : List ((List Int) × Int)))).bind fun r14 =>
  (sndO inrO r14).bind fun t16 =>
  (cond (decide (t16 = (tg_holds, true))) ((m__law_bill_told (table, ([] : List Int), [([(0 : Int)], (0 : Int))])).bind fun r18 => (sndO inrO r18).bind fun t20 => some (decide (t20 = (tg_holds, false)))) (some false)).bind fun b22 =>
  some (b22, state9)) ((m__law_parts (state9, table, r7)).bind fun (r25, state27) =>
  (m__law_bent_parts (state27, r25, (table.length : Int))).bind fun (r31, state33) =>
  finK (fun (_ : Unit) => ((m__law_draw (state33, ((r7.length : Int) + (1 : Int)))).bind fun (r66, state68) =>
  (m__law_draw (state68, (9 : Int))).bind fun (r72, state74) =>
  (m__law_draw (state74, (3 : Int))).bind fun (r75, state77) =>
  (atI [(table.length : Int), (-(1 : Int)), (((table.length : Int) + (1 : Int)) + r72)] r75).bind fun t78 =>
  (catO (cut r7 none (some r66)) [t78]).bind fun t85 =>
  (catO t85 (cut r7 (some r66) none)).bind fun t88 =>
  (m__law_bill_told (table, t88, r25)).bind fun r89 =>
  (sndO inlO r89).bind fun t91 =>
  some ((decide (t91 = (tg_place, t78))), state77))) (fun (tt : Bool × (List Int)) => some tt) (forL (fun (asked41 : List ((List Int) × Int)) (_ : Unit) => ((m__law_bill_told (table, r7, asked41)).bind fun r45 =>
  (cond (!decide (r45.1 = tg_holds)) (some true) ((inrO r45.2).bind fun t50 => (cond (!true) (some true) ((m__law_holds (table, r7, asked41)).bind fun r52 => (inrO r45.2).bind fun t54 => some (!decide (t54 = r52)))).bind fun b56 => some b56)).bind fun b58 =>
  cond b58 (some (.rt (false, state33))) (cond ((!decide (asked41 = asked41)) || (!decide (r7 = r7))) (some (.rt (false, state33))) (some (.nx ()))) : Option (Ctl Unit (Bool × (List Int))))) [r25, r31, r25] ()))
def p__law_bills_right (K : Fg) : Sp := Pr1 K (fun (g : (List Int) × (List (List Int))) p => [SA p, (rLst (rLst rInt)).s K g.2]) (fun g => CL rInt K g.1) m__law_bills_right (fun e => CL rInt K e) rBool
abbrev N__law_bills_right : List Str := ["state", "table", "size", "shut", "parts", "bent", "given", "asked", "passed", "told", "at", "wrong"]
theorem sc__law_bills_right : FnScope N__law_bills_right ["state", "table"] (defScope s__law_bills_right) := ⟨rfl, rfl, rfl, by decide +kernel, rfl, by decide +kernel, by decide +kernel⟩
theorem ok__law_bills_right {P : Program} {w : World} {K : Fg} {mg : Str → Option Value} {base : Heap} (T : Tx P K mg) {fd : FuncData} (F : FnP K "_law_bills_right" s__law_bills_right (He.ga K "_law_bills_right") fd) : FnOk P w K mg base (L2.CX P w) 6 (He.ga K "_law_bills_right") fd ["state", "table"] (p__law_bills_right K) := by
  obtain ⟨fd__law_bent_parts, F__law_bent_parts⟩ := T.f__law_bent_parts
  have G__law_bent_parts : FnOk P w K mg base (L2.CX P w) 2 (He.ga K "_law_bent_parts") fd__law_bent_parts ["state", "parts", "size"] (p__law_bent_parts K) := ok__law_bent_parts T F__law_bent_parts
  have b__law_bent_parts : Binds K fd__law_bent_parts ["state", "parts", "size"] [] := F__law_bent_parts.bindsN fun _ _ _ _ _ _ us hl => match us, hl with | [_, _, _], _ => rfl
  obtain ⟨fd__law_bill_told, F__law_bill_told⟩ := T.f__law_bill_told
  have G__law_bill_told : FnOk P w K mg base (L2.CX P w) 5 (He.ga K "_law_bill_told") fd__law_bill_told ["table", "shut", "parts"] (p__law_bill_told K) := ok__law_bill_told T F__law_bill_told
  have b__law_bill_told : Binds K fd__law_bill_told ["table", "shut", "parts"] [] := F__law_bill_told.bindsN fun _ _ _ _ _ _ us hl => match us, hl with | [_, _, _], _ => rfl
  obtain ⟨fd__law_draw, F__law_draw⟩ := T.f__law_draw
  have G__law_draw : FnOk P w K mg base (L2.CX P w) 1 (He.ga K "_law_draw") fd__law_draw ["state", "many"] (p__law_draw K) := ok__law_draw T F__law_draw
  have b__law_draw : Binds K fd__law_draw ["state", "many"] [] := F__law_draw.bindsN fun _ _ _ _ _ _ us hl => match us, hl with | [_, _], _ => rfl
  obtain ⟨fd__law_holds, F__law_holds⟩ := T.f__law_holds
  have G__law_holds : FnOk P w K mg base (L2.CX P w) 1 (He.ga K "_law_holds") fd__law_holds ["table", "shut", "parts"] (p__law_holds K) := ok__law_holds T F__law_holds
  have b__law_holds : Binds K fd__law_holds ["table", "shut", "parts"] [] := F__law_holds.bindsN fun _ _ _ _ _ _ us hl => match us, hl with | [_, _, _], _ => rfl
  obtain ⟨fd__law_order, F__law_order⟩ := T.f__law_order
  have G__law_order : FnOk P w K mg base (L2.CX P w) 2 (He.ga K "_law_order") fd__law_order ["state", "places"] (p__law_order K) := ok__law_order T F__law_order
  have b__law_order : Binds K fd__law_order ["state", "places"] [] := F__law_order.bindsN fun _ _ _ _ _ _ us hl => match us, hl with | [_, _], _ => rfl
  obtain ⟨fd__law_parts, F__law_parts⟩ := T.f__law_parts
  have G__law_parts : FnOk P w K mg base (L2.CX P w) 2 (He.ga K "_law_parts") fd__law_parts ["state", "table", "shut"] (p__law_parts K) := ok__law_parts T F__law_parts
  have b__law_parts : Binds K fd__law_parts ["state", "table", "shut"] [] := F__law_parts.bindsN fun _ _ _ _ _ _ us hl => match us, hl with | [_, _, _], _ => rfl
  obtain ⟨fd__law_set, F__law_set⟩ := T.f__law_set
  have G__law_set : FnOk P w K mg base (L2.CX P w) 2 (He.ga K "_law_set") fd__law_set ["state", "size"] (p__law_set K) := ok__law_set T F__law_set
  have b__law_set : Binds K fd__law_set ["state", "size"] [] := F__law_set.bindsN fun _ _ _ _ _ _ us hl => match us, hl with | [_, _], _ => rfl
  have sc := sc__law_bills_right
  refine F.ok sc (fun vs H Q E h => ?_) (fun cdv A outer s H vs Q E hr h => ?_)
  · obtain ⟨g, p, z, B, o, ss, _⟩ := h
    exact (Paired.length ss).trans rfl
  · obtain ⟨⟨state, table⟩, p0, z, B, o, ss, ex, h1, h2, h3, h4, hm, k⟩ := h
    obtain ⟨v0, v1, rfl, z0, z1⟩ := pn2 ss
    cases (show _ = V.ref p0 from z0)
    have hu := hr.units
    refine ⟨_, (pss_cons (ps_set (i := 2) sc.nd rfl (Or.inl rfl) (pe_callB (clen (K := K) rfl) (by rfl) T.b_len (by decide +kernel) (pa_cons (pv 1) pa_nil))) (pss_cons (ps_set (i := 3) sc.nd rfl (Or.inl rfl) (pe_call G__law_order (hr.mono (by decide)) (by rfl) T.m__law_order F__law_order.kp b__law_order .nil passL (pa_cons (pv 0) (pa_cons (pe_call G__law_set (hr.mono (by decide)) (by rfl) T.m__law_set F__law_set.kp b__law_set .nil passL (pa_cons (pv 0) (pa_cons (pv 2) pa_nil))) pa_nil)))) (pss_cons (ps_if (pt_cmpR op_eq (pe_callB (clen (K := K) rfl) (by rfl) T.b_len (by decide +kernel) (pa_cons (pv 3) pa_nil)) pe_int (nomark _)) (pss_one (ps_ret (pe_and (pe_cmpR (opeqD (K := K) rfl hu) (pe_call G__law_bill_told (hr.mono (by decide)) (by rfl) T.m__law_bill_told F__law_bill_told.kp b__law_bill_told .nil passL (pa_cons (pv 1) (pa_cons (pe_lst pa_nil) (pa_cons (pe_lst pa_nil) pa_nil)))) (pe_tup (pa_cons pe_str (pa_cons pe_bl pa_nil))) (nomark _)) (pe_one (pe_cmpR (opeqD (K := K) rfl hu) (pe_call G__law_bill_told (hr.mono (by decide)) (by rfl) T.m__law_bill_told F__law_bill_told.kp b__law_bill_told .nil passL (pa_cons (pv 1) (pa_cons (pe_lst pa_nil) (pa_cons (pe_lst (pa_cons (pe_tup (pa_cons (pe_tup (pa_cons pe_int pa_nil)) (pa_cons pe_int pa_nil))) pa_nil)) pa_nil)))) (pe_tup (pa_cons pe_str (pa_cons pe_bl pa_nil))) (nomark _)))))) pss_nil) (pss_cons (ps_set (i := 4) sc.nd rfl (Or.inl rfl) (pe_call G__law_parts (hr.mono (by decide)) (by rfl) T.m__law_parts F__law_parts.kp b__law_parts .nil passL (pa_cons (pv 0) (pa_cons (pv 1) (pa_cons (pv 3) pa_nil))))) (pss_cons (ps_set (i := 5) sc.nd rfl (Or.inl rfl) (pe_call G__law_bent_parts (hr.mono (by decide)) (by rfl) T.m__law_bent_parts F__law_bent_parts.kp b__law_bent_parts .nil passL (pa_cons (pv 0) (pa_cons (pv 4) (pa_cons (pv 2) pa_nil))))) (pss_cons (ps_set (i := 6) sc.nd rfl (Or.inl rfl) (pe_callTy (clst (K := K) rfl) (by rfl) T.b_list (by decide +kernel) (pa_cons (pv 3) pa_nil))) (pss_cons (ps_for (passes_of rfl) rfl (pi_list (pe_lst (pa_cons (pv 4) (pa_cons (pv 5) (pa_cons (pv 4) pa_nil))))) (pg_name (i := 7) sc.nd rfl (Or.inl rfl)) (pss_cons (ps_set (i := 8) sc.nd rfl (Or.inl rfl) (pe_callTy (clst (K := K) rfl) (by rfl) T.b_list (by decide +kernel) (pa_cons (pv 7) pa_nil))) (pss_cons (ps_set (i := 9) sc.nd rfl (Or.inl rfl) (pe_call G__law_bill_told (hr.mono (by decide)) (by rfl) T.m__law_bill_told F__law_bill_told.kp b__law_bill_told .nil passL (pa_cons (pv 1) (pa_cons (pv 6) (pa_cons (pv 8) pa_nil))))) (pss_cons (ps_if (PW.pt (pw_or (pt_cmpR (opneD (K := K) rfl hu) (pe_ix (ixt (K := K) rfl) (pv 9) pe_int (fun _ _ => rfl)) pe_str (nomark _)) (pw_or (pt_not (pt_val (pe_callB (cisi (K := K) rfl) (by rfl) T.b_isinstance (by decide +kernel) (pa_cons (pe_ix (ixt (K := K) rfl) (pv 9) pe_int (fun _ _ => rfl)) (pa_cons (pe_bltn (v := .ty "bool") (by rfl) T.b_bool (by decide +kernel) rfl) pa_nil))))) (pw_or1 (pt_cmpR (opneD (K := K) rfl hu) (pe_ix (ixt (K := K) rfl) (pv 9) pe_int (fun _ _ => rfl)) (pe_call G__law_holds (hr.mono (by decide)) (by rfl) T.m__law_holds F__law_holds.kp b__law_holds .nil passL (pa_cons (pv 1) (pa_cons (pv 3) (pa_cons (pv 7) pa_nil)))) (nomark _)))))) (pss_one (ps_ret pe_bl)) pss_nil) (pss_one (ps_if (PW.pt (pw_or (pt_cmpR (opneD (K := K) rfl hu) (pv 8) (pv 7) (nomark _)) (pw_or1 (pt_cmpR (opneD (K := K) rfl hu) (pv 6) (pv 3) (nomark _))))) (pss_one (ps_ret pe_bl)) pss_nil)))))) (pss_cons (ps_set (i := 10) sc.nd rfl (Or.inl rfl) (pe_call G__law_draw (hr.mono (by decide)) (by rfl) T.m__law_draw F__law_draw.kp b__law_draw .nil passL (pa_cons (pv 0) (pa_cons (pe_op op_add (pe_callB (clen (K := K) rfl) (by rfl) T.b_len (by decide +kernel) (pa_cons (pv 3) pa_nil)) pe_int) pa_nil)))) (pss_cons (ps_set (i := 11) sc.nd rfl (Or.inl rfl) (pe_ix (ixl (K := K) rfl) (pe_lst (pa_cons (pv 2) (pa_cons (pe_un un_neg pe_int) (pa_cons (pe_op op_add (pe_op op_add (pv 2) pe_int) (pe_call G__law_draw (hr.mono (by decide)) (by rfl) T.m__law_draw F__law_draw.kp b__law_draw .nil passL (pa_cons (pv 0) (pa_cons pe_int pa_nil)))) pa_nil)))) (pe_call G__law_draw (hr.mono (by decide)) (by rfl) T.m__law_draw F__law_draw.kp b__law_draw .nil passL (pa_cons (pv 0) (pa_cons pe_int pa_nil))) (fun _ _ => rfl))) (pss_one (ps_ret (pe_cmpR (opeqD (K := K) rfl hu) (pe_call G__law_bill_told (hr.mono (by decide)) (by rfl) T.m__law_bill_told F__law_bill_told.kp b__law_bill_told .nil passL (pa_cons (pv 1) (pa_cons (pe_op op_cat (pe_op op_cat (pe_slice (sll (K := K) rfl) (pv 3) po_none (po_some (pv 10))) (pe_lst (pa_cons (pv 11) pa_nil))) (pe_slice (sll (K := K) rfl) (pv 3) (po_some (pv 10)) po_none)) (pa_cons (pv 4) pa_nil)))) (pe_tup (pa_cons pe_str (pa_cons (pv 11) pa_nil))) (nomark _))))))))))))), ?_⟩
    have w := Wd.start1 (K := K) ex h1 h2 h3 h4
    unfold m__law_bills_right at hm
    refine s_asg w (ev_len (ev_var (S := (rLst (rLst rInt)).s K table) rfl z1) src_p) (fun v_2 B1 H1 x1 w1 h3 => ?_)
    obtain ⟨⟨r4, state6⟩, e5, hm⟩ := ob hm
    try dsimp only at hm
    obtain ⟨⟨r7, state9⟩, e8, hm⟩ := ob hm
    try dsimp only at hm
    refine s_asg w1 ((ev_call1 (g := (state6, r4)) 0 rfl (ea_cons (ev_var (S := SA p0) rfl rfl) (ea_cons (ev_call1 (g := (state, (table.length : Int))) 0 rfl (ea_cons (ev_var (S := SA p0) rfl rfl) (ea_cons (ev_var (S := rInt.s K (table.length : Int)) rfl h3) ea_nil)) rfl (al_p (fun a z => List.mem_of_mem_eraseIdx z) (al_p (fun a z => List.mem_of_mem_eraseIdx z) al_nil)) e5 (csi (imm_flat _))) ea_nil)) rfl (al_p (fun a z => List.mem_of_mem_eraseIdx z) (al_le g_s (fun a z => List.mem_of_mem_eraseIdx z) al_nil)) e8 (csi (imm_flat _))).le g_s) (fun v_11 B10 H10 x10 w10 h12 => ?_)
    try dsimp only
    refine s_if w10 (et_test (ev_eqI (ev_len (ev_var (S := (rLst rInt).s K r7) rfl h12) src_p) ev_int)) (fun hb B13 H13 x13 w13 => ?_) (fun hb B13 H13 x13 w13 => ?_)
    · have hm := it hb hm
      obtain ⟨r14, e15, hm⟩ := ob hm
      obtain ⟨t16, e17, hm⟩ := ob hm
      obtain ⟨b22, e23, hm⟩ := ob hm
      refine s_ret w13 (ev_andO (b := b22) (ev_eqD (dqT2 dqTag dqBool) (((ev_call0 (g := (table, ([] : List Int), ([] : List ((List Int) × Int)))) (ea_cons (ev_var (S := (rLst (rLst rInt)).s K table) rfl (Sv.mono _ x13 (Sv.mono _ x10 (Sv.mono _ x1 z1)))) (ea_cons (ev_lst (R := rInt) (xs := []) ea_nil (by decide)) (ea_cons (ev_lst (R := (rT2 (rTpl rInt) rInt)) (xs := []) ea_nil (by decide)) ea_nil))) (al_p (fun _ z => z) (al_le sn_s (fun _ z => z) (al_le sn_s (fun _ z => z) al_nil))) e15).le g_s).le (c_T2 (fun _ _ h_ => (c_inr h_)) e17)) (ev_T2 (ea_cons (ev_tag tg_holds) (ea_cons ev_bl ea_nil))) srd_s srd_s) (fun hc => by have e23 := it hc e23; obtain ⟨r18, e19, e23⟩ := ob e23; obtain ⟨t20, e21, e23⟩ := ob e23; have hq_ := Option.some.inj e23; subst hq_; exact (ev_eqD (dqT2 dqTag dqBool) (((ev_call0 (g := (table, ([] : List Int), [([(0 : Int)], (0 : Int))])) (ea_cons (ev_var (S := (rLst (rLst rInt)).s K table) rfl (Sv.mono _ x13 (Sv.mono _ x10 (Sv.mono _ x1 z1)))) (ea_cons (ev_lst (R := rInt) (xs := []) ea_nil (by decide)) (ea_cons (ev_lst (R := (rT2 (rTpl rInt) rInt)) (xs := [([(0 : Int)], (0 : Int))]) (ea_cons (ev_T2 (ea_cons (ev_tpl (R := rInt) (xs := [(0 : Int)]) (ea_cons ev_int ea_nil) (by show 1 ≤ 1000; decide)) (ea_cons ev_int ea_nil))) ea_nil) (by show 1 ≤ 1000; decide)) ea_nil))) (al_p (fun _ z => z) (al_le sn_s (fun _ z => z) (al_le sn_s (fun _ z => z) al_nil))) e19).le g_s).le (c_T2 (fun _ _ h_ => (c_inr h_)) e21)) (ev_T2 (ea_cons (ev_tag tg_holds) (ea_cons ev_bl ea_nil))) srd_s srd_s)) (fun hc => by have e23 := ie hc e23; cases e23; exact ⟨rfl, rfl⟩)) (fun vv B24 H24 x24 w24 hv => ?_)
      cases hm
      obtain ⟨oz, gz1, _, gz3, gz4⟩ := w24.cell.get (i := 0) rfl rfl
      exact k _ _ _ oz w24.st w24.ex gz1 gz3 gz4 ((imm_flat _) _ _ _ _ _ hv)
    · have hm := ie hb hm
      obtain ⟨⟨r25, state27⟩, e26, hm⟩ := ob hm
      try dsimp only at hm
      refine s_asg w13 ((ev_call1 (g := (state9, table, r7)) 0 rfl (ea_cons (ev_var (S := SA p0) rfl rfl) (ea_cons (ev_var (S := (rLst (rLst rInt)).s K table) rfl (Sv.mono _ x13 (Sv.mono _ x10 (Sv.mono _ x1 z1)))) (ea_cons (ev_var (S := (rLst rInt).s K r7) rfl (Sv.mono _ x13 h12)) ea_nil))) rfl (al_p (fun a z => List.mem_of_mem_eraseIdx z) (al_p (fun a z => List.mem_of_mem_eraseIdx z) (al_p (fun a z => List.mem_of_mem_eraseIdx z) al_nil))) e26 (csi (imm_flat _))).le g_s) (fun v_29 B28 H28 x28 w28 h30 => ?_)
      obtain ⟨⟨r31, state33⟩, e32, hm⟩ := ob hm
      try dsimp only at hm
      refine s_asg w28 ((ev_call1 (g := (state27, r25, (table.length : Int))) 0 rfl (ea_cons (ev_var (S := SA p0) rfl rfl) (ea_cons (ev_var (S := (rLst (rT2 (rTpl rInt) rInt)).s K r25) rfl h30) (ea_cons (ev_var (S := rInt.s K (table.length : Int)) rfl (Sv.mono _ x28 (Sv.mono _ x13 (Sv.mono _ x10 h3)))) ea_nil))) rfl (al_p (fun a z => List.mem_of_mem_eraseIdx z) (al_p (fun a z => List.mem_of_mem_eraseIdx z) (al_p (fun a z => List.mem_of_mem_eraseIdx z) al_nil))) e32 (csi (imm_flat _))).le g_s) (fun v_35 B34 H34 x34 w34 h36 => ?_)
      refine s_asg w34 ((ev_list (ev_var (S := (rLst rInt).s K r7) rfl (Sv.mono _ x34 (Sv.mono _ x28 (Sv.mono _ x13 h12)))) src_p).le sn_s) (fun v_38 B37 H37 x37 w37 h39 => ?_)
      refine s_for (R := (rLst (rT2 (rTpl rInt) rInt))) (oo := (fun (rr : Unit) => [CL rInt K state33])) (ρ0 := ()) (fun (asked41 : List ((List Int) × Int)) (_ : Unit) => ((m__law_bill_told (table, r7, asked41)).bind fun r45 =>
(cond (!decide (r45.1 = tg_holds)) (some true) ((inrO r45.2).bind fun t50 => (cond (!true) (some true) ((m__law_holds (table, r7, asked41)).bind fun r52 => (inrO r45.2).bind fun t54 => some (!decide (t54 = r52)))).bind fun b56 => some b56)).bind fun b58 =>
cond b58 (some (.rt (false, state33))) (cond ((!decide (asked41 = asked41)) || (!decide (r7 = r7))) (some (.rt (false, state33))) (some (.nx ()))) : Option (Ctl Unit (Bool × (List Int))))) (fun (_ : Unit) σ' B' => ∃ o_7 : Option V, ∃ o_8 : Option V, ∃ o_9 : Option V, ∃ o_10 : Option V, ∃ o_11 : Option V, σ' = [some (.ref p0), some v1, some v_2, some v_11, some v_29, some v_35, some v_38, o_7, o_8, o_9, o_10, o_11]) (fun zz => finK _ _ zz = some _) w37 (ei_list ((ev_lst (R := (rLst (rT2 (rTpl rInt) rInt))) (xs := [r25, r31, r25]) (ea_cons (ev_var (S := (rLst (rT2 (rTpl rInt) rInt)).s K r25) rfl (Sv.mono _ x37 (Sv.mono _ x34 h30))) (ea_cons (ev_var (S := (rLst (rT2 (rTpl rInt) rInt)).s K r31) rfl (Sv.mono _ x37 h36)) (ea_cons (ev_var (S := (rLst (rT2 (rTpl rInt) rInt)).s K r25) rfl (Sv.mono _ x37 (Sv.mono _ x34 h30))) ea_nil))) (by show 3 ≤ 1000; decide)).le sn_s)) (fun rr σ' B1 B2 e ⟨o_7, o_8, o_9, o_10, o_11, hσ⟩ => ⟨o_7, o_8, o_9, o_10, o_11, hσ⟩) (fun B2 e => ⟨_, _, _, _, _, rfl⟩) hm ?_ ?_
      · rintro asked41 rst rr vx40 σ' Bt40 Ht40 xt40 wt40 ⟨o_7t40, o_8t40, o_9t40, o_10t40, o_11t40, rfl⟩ hx40 hf N hN dn
        dsimp only [gName]
        obtain ⟨ctl, hfx, hbk40, hrt40⟩ := forL_step hf
        have hm := hfx
        refine s_asg wt40 ((ev_list (ev_var (S := (rLst (rT2 (rTpl rInt) rInt)).s K asked41) rfl hx40) src_p).le sn_s) (fun v_43 B42 H42 x42 w42 h44 => ?_)
        obtain ⟨r45, e46, hm⟩ := ob hm
        refine s_asg w42 ((ev_call0 (g := (table, r7, asked41)) (ea_cons (ev_var (S := (rLst (rLst rInt)).s K table) rfl (Sv.mono _ x42 (Sv.mono _ xt40 (Sv.mono _ x37 (Sv.mono _ x34 (Sv.mono _ x28 (Sv.mono _ x13 (Sv.mono _ x10 (Sv.mono _ x1 z1))))))))) (ea_cons (ev_var (S := (rLst rInt).s K r7) rfl (Sv.mono _ x42 (Sv.mono _ xt40 h39))) (ea_cons (ev_var (S := (rLst (rT2 (rTpl rInt) rInt)).s K asked41) rfl h44) ea_nil))) (al_p (fun _ z => z) (al_p (fun _ z => z) (al_p (fun _ z => z) al_nil))) e46).le g_s) (fun v_48 B47 H47 x47 w47 h49 => ?_)
        obtain ⟨b58, e59, hm⟩ := ob hm
        try dsimp only
        refine s_if w47 (et_orO (b := b58) (et_test (ev_neD dqTag (ev_T2a (ev_var (S := (rT2 rTag (rEi rInt rBool)).s K r45) rfl h49)) (ev_tag tg_holds) srd_s srd_s)) (fun hc => by have e59 := ie hc e59; obtain ⟨t50, e51, e59⟩ := ob e59; obtain ⟨b56, e57, e59⟩ := ob e59; have hq_ := Option.some.inj e59; subst hq_; exact (et_orO (b := b56) (et_not (et_B (ev_isi_bool ((ev_T2b (ev_var (S := (rT2 rTag (rEi rInt rBool)).s K r45) rfl h49)).le (c_inr e51)) (b := true) (by decide +kernel)))) (fun hc => by have e57 := ie hc e57; obtain ⟨r52, e53, e57⟩ := ob e57; obtain ⟨t54, e55, e57⟩ := ob e57; have hq_ := Option.some.inj e57; subst hq_; exact (et_test (ev_neD dqBool ((ev_T2b (ev_var (S := (rT2 rTag (rEi rInt rBool)).s K r45) rfl h49)).le (c_inr e55)) ((ev_call0 (g := (table, r7, asked41)) (ea_cons (ev_var (S := (rLst (rLst rInt)).s K table) rfl (Sv.mono _ x47 (Sv.mono _ x42 (Sv.mono _ xt40 (Sv.mono _ x37 (Sv.mono _ x34 (Sv.mono _ x28 (Sv.mono _ x13 (Sv.mono _ x10 (Sv.mono _ x1 z1)))))))))) (ea_cons (ev_var (S := (rLst rInt).s K r7) rfl (Sv.mono _ x47 (Sv.mono _ x42 (Sv.mono _ xt40 (Sv.mono _ x37 (Sv.mono _ x34 (Sv.mono _ x28 (Sv.mono _ x13 h12)))))))) (ea_cons (ev_var (S := (rLst (rT2 (rTpl rInt) rInt)).s K asked41) rfl (Sv.mono _ x47 (Sv.mono _ x42 hx40))) ea_nil))) (al_p (fun _ z => z) (al_p (fun _ z => z) (al_p (fun _ z => z) al_nil))) e53).le g_s) srd_s srd_s))) (fun hc => by have e57 := it hc e57; cases e57; exact ⟨rfl, rfl⟩))) (fun hc => by have e59 := it hc e59; cases e59; exact ⟨rfl, rfl⟩)) (fun hb B60 H60 x60 w60 => ?_) (fun hb B60 H60 x60 w60 => ?_)
        · have hm := it hb hm
          refine s_ret w60 ev_bl (fun vv B61 H61 x61 w61 hv => ?_)
          cases hm
          replace hm := hrt40 _ rfl
          cases hm
          obtain ⟨oz, gz1, _, gz3, gz4⟩ := w61.cell.get (i := 0) rfl rfl
          exact k _ _ _ oz w61.st w61.ex gz1 gz3 gz4 ((imm_flat _) _ _ _ _ _ hv)
        · have hm := ie hb hm
          try dsimp only
          refine s_if w60 (et_or (et_test (ev_neD (dqLst (dqT2 (dqTpl dqInt) dqInt)) (ev_var (S := (rLst (rT2 (rTpl rInt) rInt)).s K asked41) rfl (Sv.mono _ x60 (Sv.mono _ x47 h44))) (ev_var (S := (rLst (rT2 (rTpl rInt) rInt)).s K asked41) rfl (Sv.mono _ x60 (Sv.mono _ x47 (Sv.mono _ x42 hx40)))) srd_s srd_s)) (fun _ => (et_test (ev_neD (dqLst dqInt) (ev_var (S := (rLst rInt).s K r7) rfl (Sv.mono _ x60 (Sv.mono _ x47 (Sv.mono _ x42 (Sv.mono _ xt40 h39))))) (ev_var (S := (rLst rInt).s K r7) rfl (Sv.mono _ x60 (Sv.mono _ x47 (Sv.mono _ x42 (Sv.mono _ xt40 (Sv.mono _ x37 (Sv.mono _ x34 (Sv.mono _ x28 (Sv.mono _ x13 h12))))))))) srd_s srd_s))) (fun _ => rfl)) (fun hb B62 H62 x62 w62 => ?_) (fun hb B62 H62 x62 w62 => ?_)
          · have hm := it hb hm
            refine s_ret w62 ev_bl (fun vv B63 H63 x63 w63 hv => ?_)
            cases hm
            replace hm := hrt40 _ rfl
            cases hm
            obtain ⟨oz, gz1, _, gz3, gz4⟩ := w63.cell.get (i := 0) rfl rfl
            exact k _ _ _ oz w63.st w63.ex gz1 gz3 gz4 ((imm_flat _) _ _ _ _ _ hv)
          · have hm := ie hb hm
            have hq_ := Option.some.inj hm
            subst hq_
            exact hN () _ _ _ hfx (((x42.trans x47).trans x60).trans x62) w62 ⟨_, _, _, _, _, rfl⟩
      · rintro rr σ' B64 H64 x64 w64 ⟨o_7k65, o_8k65, o_9k65, o_10k65, o_11k65, rfl⟩ hm
        try dsimp only
        replace hm := finK_nx hm
        obtain ⟨⟨r66, state68⟩, e67, hm⟩ := ob hm
        try dsimp only at hm
        refine s_asg w64 ((ev_call1 (g := (state33, ((r7.length : Int) + (1 : Int)))) 0 rfl (ea_cons (ev_var (S := SA p0) rfl rfl) (ea_cons (ev_add (ev_len (ev_var (S := (rLst rInt).s K r7) rfl (Sv.mono _ x64 (Sv.mono _ x37 (Sv.mono _ x34 (Sv.mono _ x28 (Sv.mono _ x13 h12)))))) src_p) ev_int) ea_nil)) rfl (al_p (fun a z => List.mem_of_mem_eraseIdx z) (al_p (fun a z => List.mem_of_mem_eraseIdx z) al_nil)) e67 (csi (imm_flat _))).le g_s) (fun v_70 B69 H69 x69 w69 h71 => ?_)
        obtain ⟨⟨r72, state74⟩, e73, hm⟩ := ob hm
        try dsimp only at hm
        obtain ⟨⟨r75, state77⟩, e76, hm⟩ := ob hm
        try dsimp only at hm
        obtain ⟨t78, e79, hm⟩ := ob hm
        refine s_asg w69 (ev_ix (ev_lst (R := rInt) (xs := [(table.length : Int), (-(1 : Int)), (((table.length : Int) + (1 : Int)) + r72)]) (ea_cons (ev_var (S := rInt.s K (table.length : Int)) rfl (Sv.mono _ x69 (Sv.mono _ x64 (Sv.mono _ x37 (Sv.mono _ x34 (Sv.mono _ x28 (Sv.mono _ x13 (Sv.mono _ x10 h3)))))))) (ea_cons (ev_neg ev_int) (ea_cons (ev_add (ev_add (ev_var (S := rInt.s K (table.length : Int)) rfl (Sv.mono _ x69 (Sv.mono _ x64 (Sv.mono _ x37 (Sv.mono _ x34 (Sv.mono _ x28 (Sv.mono _ x13 (Sv.mono _ x10 h3)))))))) ev_int) ((ev_call1 (g := (state68, (9 : Int))) 0 rfl (ea_cons (ev_var (S := SA p0) rfl rfl) (ea_cons ev_int ea_nil)) rfl (al_p (fun a z => List.mem_of_mem_eraseIdx z) (al_p (fun a z => List.mem_of_mem_eraseIdx z) al_nil)) e73 (csi (imm_flat _))).le g_s)) ea_nil))) (by show 3 ≤ 1000; decide)) ((ev_call1 (g := (state74, (3 : Int))) 0 rfl (ea_cons (ev_var (S := SA p0) rfl rfl) (ea_cons ev_int ea_nil)) rfl (al_p (fun a z => List.mem_of_mem_eraseIdx z) (al_p (fun a z => List.mem_of_mem_eraseIdx z) al_nil)) e76 (csi (imm_flat _))).le g_s) src_n e79) (fun v_81 B80 H80 x80 w80 h82 => ?_)
        obtain ⟨t85, e83, hm⟩ := ob hm
        obtain ⟨t88, e86, hm⟩ := ob hm
        obtain ⟨r89, e90, hm⟩ := ob hm
        obtain ⟨t91, e92, hm⟩ := ob hm
        refine s_ret w80 (ev_eqD (dqT2 dqTag dqInt) (((ev_call0 (g := (table, t88, r25)) (ea_cons (ev_var (S := (rLst (rLst rInt)).s K table) rfl (Sv.mono _ x80 (Sv.mono _ x69 (Sv.mono _ x64 (Sv.mono _ x37 (Sv.mono _ x34 (Sv.mono _ x28 (Sv.mono _ x13 (Sv.mono _ x10 (Sv.mono _ x1 z1)))))))))) (ea_cons (ev_catO (ev_catO (ev_cut (ev_var (S := (rLst rInt).s K r7) rfl (Sv.mono _ x80 (Sv.mono _ x69 (Sv.mono _ x64 (Sv.mono _ x37 (Sv.mono _ x34 (Sv.mono _ x28 (Sv.mono _ x13 h12)))))))) eo_none (eo_some (ev_var (S := rInt.s K r66) rfl (Sv.mono _ x80 h71))) src_p) (ev_lst (R := rInt) (xs := [t78]) (ea_cons (ev_var (S := rInt.s K t78) rfl h82) ea_nil) (by show 1 ≤ 1000; decide)) src_n src_n e83) (ev_cut (ev_var (S := (rLst rInt).s K r7) rfl (Sv.mono _ x80 (Sv.mono _ x69 (Sv.mono _ x64 (Sv.mono _ x37 (Sv.mono _ x34 (Sv.mono _ x28 (Sv.mono _ x13 h12)))))))) (eo_some (ev_var (S := rInt.s K r66) rfl (Sv.mono _ x80 h71))) eo_none src_p) src_n src_n e86) (ea_cons (ev_var (S := (rLst (rT2 (rTpl rInt) rInt)).s K r25) rfl (Sv.mono _ x80 (Sv.mono _ x69 (Sv.mono _ x64 (Sv.mono _ x37 (Sv.mono _ x34 h30)))))) ea_nil))) (al_p (fun _ z => z) (al_le sn_s (fun _ z => z) (al_p (fun _ z => z) al_nil))) e90).le g_s).le (c_T2 (fun _ _ h_ => (c_inl h_)) e92)) (ev_T2 (ea_cons (ev_tag tg_place) (ea_cons (ev_var (S := rInt.s K t78) rfl h82) ea_nil))) srd_s srd_s) (fun vv B93 H93 x93 w93 hv => ?_)
        cases hm
        obtain ⟨oz, gz1, _, gz3, gz4⟩ := w93.cell.get (i := 0) rfl rfl
        exact k _ _ _ oz w93.st w93.ex gz1 gz3 gz4 ((imm_flat _) _ _ _ _ _ hv)
end G

/-! T4 -/
set_option Elab.async false
set_option linter.all false
set_option maxRecDepth 100000
set_option maxHeartbeats 4000000
namespace G
open PySem PySem.Spec L2 Dl
def m__law_roads_right : (List Int) × (List (List Int)) → Option (Bool × (List Int)) := fun (state, table) =>
  (m__law_number (state, (table.length : Int))).bind fun (r1, state3) =>
  (m__law_number (state3, (table.length : Int))).bind fun (r7, state9) =>
  (m__law_draw (state9, (1000000 : Int))).bind fun (r13, state15) =>
  (m__law_draw (state15, (5 : Int))).bind fun (r16, state18) =>
  (atI [(0 : Int), (1 : Int), (1000000 : Int), (1000001 : Int), ((1 : Int) + r13)] r16).bind fun t19 =>
  (m__law_copy table).bind fun r24 =>
  (m__law_road_due (table, r1, r7)).bind fun r29 =>
  (m__law_road_told (r24, r1, r7)).bind fun r34 =>
  (cond (!decide (r34 = r29)) (some true) ((m__law_whole r34.2).bind fun r39 => some (!r39))).bind fun b41 =>
  cond b41 (some (false, state18)) ((m__law_changed_told (r24, r1, r7, t19)).bind fun r45 =>
  cond (decide (r29.1 = tg_place)) ((sndO inlO r45).bind fun t52 =>
  some (((decide (t52 = r29)) && (decide (r24 = table))), state18)) (cond (!(decide ((1 : Int) ≤ t19) && decide (t19 ≤ (1000000 : Int)))) ((sndO inlO r45).bind fun t56 =>
  some (((decide (t56 = (tg_number, t19))) && (decide (r24 = table))), state18)) ((m__law_copy table).bind fun r59 =>
  (rowO r59 r1).bind fun (j67, row68) =>
  (setO row68 r7 t19).bind fun row77 =>
  (cond (!decide (r45.1 = tg_table)) (some true) ((inrO r45.2).bind fun t83 => (m__law_same_rows (t83, (r59.set j67 row77))).bind fun r85 => some ((!r85) || (!decide (r24 = table))))).bind fun b87 =>
  cond b87 (some (false, state18)) ((inrO r45.2).bind fun t91 =>
  (spoilO t91).bind fun _ =>
  some ((decide (r24 = table)), state18)))))
def p__law_roads_right (K : Fg) : Sp := Pr1 K (fun (g : (List Int) × (List (List Int))) p => [SA p, (rLst (rLst rInt)).s K g.2]) (fun g => CL rInt K g.1) m__law_roads_right (fun e => CL rInt K e) rBool
abbrev N__law_roads_right : List Str := ["state", "table", "place", "end", "toll", "given", "due", "told", "changed", "row"]
theorem sc__law_roads_right : FnScope N__law_roads_right ["state", "table"] (defScope s__law_roads_right) := ⟨rfl, rfl, rfl, by decide +kernel, rfl, by decide +kernel, by decide +kernel⟩
theorem ok__law_roads_right {P : Program} {w : World} {K : Fg} {mg : Str → Option Value} {base : Heap} (T : Tx P K mg) {fd : FuncData} (F : FnP K "_law_roads_right" s__law_roads_right (He.ga K "_law_roads_right") fd) : FnOk P w K mg base (L2.CX P w) 7 (He.ga K "_law_roads_right") fd ["state", "table"] (p__law_roads_right K) := by
  obtain ⟨fd__law_changed_told, F__law_changed_told⟩ := T.f__law_changed_told
  have G__law_changed_told : FnOk P w K mg base (L2.CX P w) 6 (He.ga K "_law_changed_told") fd__law_changed_told ["table", "place", "end", "toll"] (p__law_changed_told K) := ok__law_changed_told T F__law_changed_told
  have b__law_changed_told : Binds K fd__law_changed_told ["table", "place", "end", "toll"] [] := F__law_changed_told.bindsN fun _ _ _ _ _ _ us hl => match us, hl with | [_, _, _, _], _ => rfl
  obtain ⟨fd__law_copy, F__law_copy⟩ := T.f__law_copy
  have G__law_copy : FnOk P w K mg base (L2.CX P w) 1 (He.ga K "_law_copy") fd__law_copy ["table"] (p__law_copy K) := ok__law_copy T F__law_copy
  have b__law_copy : Binds K fd__law_copy ["table"] [] := F__law_copy.bindsN fun _ _ _ _ _ _ us hl => match us, hl with | [_], _ => rfl
  obtain ⟨fd__law_draw, F__law_draw⟩ := T.f__law_draw
  have G__law_draw : FnOk P w K mg base (L2.CX P w) 1 (He.ga K "_law_draw") fd__law_draw ["state", "many"] (p__law_draw K) := ok__law_draw T F__law_draw
  have b__law_draw : Binds K fd__law_draw ["state", "many"] [] := F__law_draw.bindsN fun _ _ _ _ _ _ us hl => match us, hl with | [_, _], _ => rfl
  obtain ⟨fd__law_number, F__law_number⟩ := T.f__law_number
  have G__law_number : FnOk P w K mg base (L2.CX P w) 2 (He.ga K "_law_number") fd__law_number ["state", "size"] (p__law_number K) := ok__law_number T F__law_number
  have b__law_number : Binds K fd__law_number ["state", "size"] [] := F__law_number.bindsN fun _ _ _ _ _ _ us hl => match us, hl with | [_, _], _ => rfl
  obtain ⟨fd__law_road_due, F__law_road_due⟩ := T.f__law_road_due
  have G__law_road_due : FnOk P w K mg base (L2.CX P w) 1 (He.ga K "_law_road_due") fd__law_road_due ["table", "place", "end"] (p__law_road_due K) := ok__law_road_due T F__law_road_due
  have b__law_road_due : Binds K fd__law_road_due ["table", "place", "end"] [] := F__law_road_due.bindsN fun _ _ _ _ _ _ us hl => match us, hl with | [_, _, _], _ => rfl
  obtain ⟨fd__law_road_told, F__law_road_told⟩ := T.f__law_road_told
  have G__law_road_told : FnOk P w K mg base (L2.CX P w) 6 (He.ga K "_law_road_told") fd__law_road_told ["table", "place", "end"] (p__law_road_told K) := ok__law_road_told T F__law_road_told
  have b__law_road_told : Binds K fd__law_road_told ["table", "place", "end"] [] := F__law_road_told.bindsN fun _ _ _ _ _ _ us hl => match us, hl with | [_, _, _], _ => rfl
  obtain ⟨fd__law_same_rows, F__law_same_rows⟩ := T.f__law_same_rows
  have G__law_same_rows : FnOk P w K mg base (L2.CX P w) 3 (He.ga K "_law_same_rows") fd__law_same_rows ["told", "due"] (p__law_same_rows K) := ok__law_same_rows T F__law_same_rows
  have b__law_same_rows : Binds K fd__law_same_rows ["told", "due"] [] := F__law_same_rows.bindsN fun _ _ _ _ _ _ us hl => match us, hl with | [_, _], _ => rfl
  obtain ⟨fd__law_whole, F__law_whole⟩ := T.f__law_whole
  have G__law_whole : FnOk P w K mg base (L2.CX P w) 1 (He.ga K "_law_whole") fd__law_whole ["thing"] (p__law_whole K) := ok__law_whole T F__law_whole
  have b__law_whole : Binds K fd__law_whole ["thing"] [] := F__law_whole.bindsN fun _ _ _ _ _ _ us hl => match us, hl with | [_], _ => rfl
  have sc := sc__law_roads_right
  refine F.ok sc (fun vs H Q E h => ?_) (fun cdv A outer s H vs Q E hr h => ?_)
  · obtain ⟨g, p, z, B, o, ss, _⟩ := h
    exact (Paired.length ss).trans rfl
  · obtain ⟨⟨state, table⟩, p0, z, B, o, ss, ex, h1, h2, h3, h4, hm, k⟩ := h
    obtain ⟨v0, v1, rfl, z0, z1⟩ := pn2 ss
    cases (show _ = V.ref p0 from z0)
    have hu := hr.units
    refine ⟨_, (pss_cons (ps_set (i := 2) sc.nd rfl (Or.inl rfl) (pe_call G__law_number (hr.mono (by decide)) (by rfl) T.m__law_number F__law_number.kp b__law_number .nil passL (pa_cons (pv 0) (pa_cons (pe_callB (clen (K := K) rfl) (by rfl) T.b_len (by decide +kernel) (pa_cons (pv 1) pa_nil)) pa_nil)))) (pss_cons (ps_set (i := 3) sc.nd rfl (Or.inl rfl) (pe_call G__law_number (hr.mono (by decide)) (by rfl) T.m__law_number F__law_number.kp b__law_number .nil passL (pa_cons (pv 0) (pa_cons (pe_callB (clen (K := K) rfl) (by rfl) T.b_len (by decide +kernel) (pa_cons (pv 1) pa_nil)) pa_nil)))) (pss_cons (ps_set (i := 4) sc.nd rfl (Or.inl rfl) (pe_ix (ixl (K := K) rfl) (pe_lst (pa_cons pe_int (pa_cons pe_int (pa_cons pe_int (pa_cons pe_int (pa_cons (pe_op op_add pe_int (pe_call G__law_draw (hr.mono (by decide)) (by rfl) T.m__law_draw F__law_draw.kp b__law_draw .nil passL (pa_cons (pv 0) (pa_cons pe_int pa_nil)))) pa_nil)))))) (pe_call G__law_draw (hr.mono (by decide)) (by rfl) T.m__law_draw F__law_draw.kp b__law_draw .nil passL (pa_cons (pv 0) (pa_cons pe_int pa_nil))) (fun _ _ => rfl))) (pss_cons (ps_set (i := 5) sc.nd rfl (Or.inl rfl) (pe_call G__law_copy (hr.mono (by decide)) (by rfl) T.m__law_copy F__law_copy.kp b__law_copy .nil passL (pa_cons (pv 1) pa_nil))) (pss_cons (ps_set (i := 6) sc.nd rfl (Or.inl rfl) (pe_call G__law_road_due (hr.mono (by decide)) (by rfl) T.m__law_road_due F__law_road_due.kp b__law_road_due .nil passL (pa_cons (pv 1) (pa_cons (pv 2) (pa_cons (pv 3) pa_nil))))) (pss_cons (ps_set (i := 7) sc.nd rfl (Or.inl rfl) (pe_call G__law_road_told (hr.mono (by decide)) (by rfl) T.m__law_road_told F__law_road_told.kp b__law_road_told .nil passL (pa_cons (pv 5) (pa_cons (pv 2) (pa_cons (pv 3) pa_nil))))) (pss_cons (ps_if (PW.pt (pw_or (pt_cmpR (opneD (K := K) rfl hu) (pv 7) (pv 6) (nomark _)) (pw_or1 (pt_not (pt_val (pe_call G__law_whole (hr.mono (by decide)) (by rfl) T.m__law_whole F__law_whole.kp b__law_whole .nil passL (pa_cons (pe_ix (ixt (K := K) rfl) (pv 7) pe_int (fun _ _ => rfl)) pa_nil))))))) (pss_one (ps_ret pe_bl)) pss_nil) (pss_cons (ps_set (i := 7) sc.nd rfl (Or.inl rfl) (pe_call G__law_changed_told (hr.mono (by decide)) (by rfl) T.m__law_changed_told F__law_changed_told.kp b__law_changed_told .nil passL (pa_cons (pv 5) (pa_cons (pv 2) (pa_cons (pv 3) (pa_cons (pv 4) pa_nil)))))) (pss_cons (ps_if (pt_cmpR (opeqD (K := K) rfl hu) (pe_ix (ixt (K := K) rfl) (pv 6) pe_int (fun _ _ => rfl)) pe_str (nomark _)) (pss_one (ps_ret (pe_and (pe_cmpR (opeqD (K := K) rfl hu) (pv 7) (pv 6) (nomark _)) (pe_one (pe_cmpR (opeqD (K := K) rfl hu) (pv 5) (pv 1) (nomark _)))))) pss_nil) (pss_cons (ps_if (pt_not (pt_chain op_le op_le pe_int (pv 4) pe_int)) (pss_one (ps_ret (pe_and (pe_cmpR (opeqD (K := K) rfl hu) (pv 7) (pe_tup (pa_cons pe_str (pa_cons (pv 4) pa_nil))) (nomark _)) (pe_one (pe_cmpR (opeqD (K := K) rfl hu) (pv 5) (pv 1) (nomark _)))))) pss_nil) (pss_cons (ps_set (i := 8) sc.nd rfl (Or.inl rfl) (pe_call G__law_copy (hr.mono (by decide)) (by rfl) T.m__law_copy F__law_copy.kp b__law_copy .nil passL (pa_cons (pv 1) pa_nil))) (pss_cons (ps_set (i := 9) sc.nd rfl (Or.inl rfl) (pe_ix (ixl (K := K) rfl) (pv 8) (pv 2) (fun _ _ => rfl))) (pss_cons (ps_asg (pv 4) (pg_sub (pv 9) (pv 3) set_list)) (pss_cons (ps_if (PW.pt (pw_or (pt_cmpR (opneD (K := K) rfl hu) (pe_ix (ixt (K := K) rfl) (pv 7) pe_int (fun _ _ => rfl)) pe_str (nomark _)) (pw_or (pt_not (pt_val (pe_call G__law_same_rows (hr.mono (by decide)) (by rfl) T.m__law_same_rows F__law_same_rows.kp b__law_same_rows .nil passL (pa_cons (pe_ix (ixt (K := K) rfl) (pv 7) pe_int (fun _ _ => rfl)) (pa_cons (pv 8) pa_nil))))) (pw_or1 (pt_cmpR (opneD (K := K) rfl hu) (pv 5) (pv 1) (nomark _)))))) (pss_one (ps_ret pe_bl)) pss_nil) (pss_cons (ps_for (passes_of rfl) rfl (pi_list (pe_ix (ixt (K := K) rfl) (pv 7) pe_int (fun _ _ => rfl))) (pg_name (i := 9) sc.nd rfl (Or.inl rfl)) (pss_one (ps_expr (pe_bm PySem.F.plainAttrs_list PySem.F.slot_list_append PySem.F.type_list_append mt_append (pv 9) (pa_cons pe_int pa_nil))))) (pss_one (ps_ret (pe_cmpR (opeqD (K := K) rfl hu) (pv 5) (pv 1) (nomark _))))))))))))))))))), ?_⟩
    have w := Wd.start1 (K := K) ex h1 h2 h3 h4
    unfold m__law_roads_right at hm
    obtain ⟨⟨r1, state3⟩, e2, hm⟩ := ob hm
    try dsimp only at hm
    refine s_asg w ((ev_call1 (g := (state, (table.length : Int))) 0 rfl (ea_cons (ev_var (S := SA p0) rfl rfl) (ea_cons (ev_len (ev_var (S := (rLst (rLst rInt)).s K table) rfl z1) src_p) ea_nil)) rfl (al_p (fun a z => List.mem_of_mem_eraseIdx z) (al_p (fun a z => List.mem_of_mem_eraseIdx z) al_nil)) e2 (csi (imm_flat _))).le g_s) (fun v_5 B4 H4 x4 w4 h6 => ?_)
    obtain ⟨⟨r7, state9⟩, e8, hm⟩ := ob hm
    try dsimp only at hm
    refine s_asg w4 ((ev_call1 (g := (state3, (table.length : Int))) 0 rfl (ea_cons (ev_var (S := SA p0) rfl rfl) (ea_cons (ev_len (ev_var (S := (rLst (rLst rInt)).s K table) rfl (Sv.mono _ x4 z1)) src_p) ea_nil)) rfl (al_p (fun a z => List.mem_of_mem_eraseIdx z) (al_p (fun a z => List.mem_of_mem_eraseIdx z) al_nil)) e8 (csi (imm_flat _))).le g_s) (fun v_11 B10 H10 x10 w10 h12 => ?_)
    obtain ⟨⟨r13, state15⟩, e14, hm⟩ := ob hm
    try dsimp only at hm
    obtain ⟨⟨r16, state18⟩, e17, hm⟩ := ob hm
    try dsimp only at hm
    obtain ⟨t19, e20, hm⟩ := ob hm
    refine s_asg w10 (ev_ix (ev_lst (R := rInt) (xs := [(0 : Int), (1 : Int), (1000000 : Int), (1000001 : Int), ((1 : Int) + r13)]) (ea_cons ev_int (ea_cons ev_int (ea_cons ev_int (ea_cons ev_int (ea_cons (ev_add ev_int ((ev_call1 (g := (state9, (1000000 : Int))) 0 rfl (ea_cons (ev_var (S := SA p0) rfl rfl) (ea_cons ev_int ea_nil)) rfl (al_p (fun a z => List.mem_of_mem_eraseIdx z) (al_p (fun a z => List.mem_of_mem_eraseIdx z) al_nil)) e14 (csi (imm_flat _))).le g_s)) ea_nil))))) (by show 5 ≤ 1000; decide)) ((ev_call1 (g := (state15, (5 : Int))) 0 rfl (ea_cons (ev_var (S := SA p0) rfl rfl) (ea_cons ev_int ea_nil)) rfl (al_p (fun a z => List.mem_of_mem_eraseIdx z) (al_p (fun a z => List.mem_of_mem_eraseIdx z) al_nil)) e17 (csi (imm_flat _))).le g_s) src_n e20) (fun v_22 B21 H21 x21 w21 h23 => ?_)
    obtain ⟨r24, e25, hm⟩ := ob hm
    refine s_asg w21 ((ev_call0 (g := table) (ea_cons (ev_var (S := (rLst (rLst rInt)).s K table) rfl (Sv.mono _ x21 (Sv.mono _ x10 (Sv.mono _ x4 z1)))) ea_nil) (al_p (fun _ z => z) al_nil) e25).le llg_s) (fun v_27 B26 H26 x26 w26 h28 => ?_)
    obtain ⟨r29, e30, hm⟩ := ob hm
    refine s_asg w26 ((ev_call0 (g := (table, r1, r7)) (ea_cons (ev_var (S := (rLst (rLst rInt)).s K table) rfl (Sv.mono _ x26 (Sv.mono _ x21 (Sv.mono _ x10 (Sv.mono _ x4 z1))))) (ea_cons (ev_var (S := rInt.s K r1) rfl (Sv.mono _ x26 (Sv.mono _ x21 (Sv.mono _ x10 h6)))) (ea_cons (ev_var (S := rInt.s K r7) rfl (Sv.mono _ x26 (Sv.mono _ x21 h12))) ea_nil))) (al_p (fun _ z => z) (al_p (fun _ z => z) (al_p (fun _ z => z) al_nil))) e30).le g_s) (fun v_32 B31 H31 x31 w31 h33 => ?_)
    obtain ⟨r34, e35, hm⟩ := ob hm
    refine s_asg w31 ((ev_call0 (g := (r24, r1, r7)) (ea_cons (ev_var (S := (rLst (rLst rInt)).s K r24) rfl (Sv.mono _ x31 h28)) (ea_cons (ev_var (S := rInt.s K r1) rfl (Sv.mono _ x31 (Sv.mono _ x26 (Sv.mono _ x21 (Sv.mono _ x10 h6))))) (ea_cons (ev_var (S := rInt.s K r7) rfl (Sv.mono _ x31 (Sv.mono _ x26 (Sv.mono _ x21 h12)))) ea_nil))) (al_p (fun _ z => z) (al_p (fun _ z => z) (al_p (fun _ z => z) al_nil))) e35).le g_s) (fun v_37 B36 H36 x36 w36 h38 => ?_)
    obtain ⟨b41, e42, hm⟩ := ob hm
    try dsimp only
    refine s_if w36 (et_orO (b := b41) (et_test (ev_neD (dqT2 dqTag dqInt) (ev_var (S := (rT2 rTag rInt).s K r34) rfl h38) (ev_var (S := (rT2 rTag rInt).s K r29) rfl (Sv.mono _ x36 h33)) srd_s srd_s)) (fun hc => by have e42 := ie hc e42; obtain ⟨r39, e40, e42⟩ := ob e42; have hq_ := Option.some.inj e42; subst hq_; exact (et_not (et_B ((ev_call0 (g := r34.2) (ea_cons (ev_T2b (ev_var (S := (rT2 rTag rInt).s K r34) rfl h38)) ea_nil) (al_p (fun _ z => z) al_nil) e40).le g_s)))) (fun hc => by have e42 := it hc e42; cases e42; exact ⟨rfl, rfl⟩)) (fun hb B43 H43 x43 w43 => ?_) (fun hb B43 H43 x43 w43 => ?_)
    · have hm := it hb hm
      refine s_ret w43 ev_bl (fun vv B44 H44 x44 w44 hv => ?_)
      cases hm
      obtain ⟨oz, gz1, _, gz3, gz4⟩ := w44.cell.get (i := 0) rfl rfl
      exact k _ _ _ oz w44.st w44.ex gz1 gz3 gz4 ((imm_flat _) _ _ _ _ _ hv)
    · have hm := ie hb hm
      obtain ⟨r45, e46, hm⟩ := ob hm
      refine s_asg w43 (ev_call0 (g := (r24, r1, r7, t19)) (ea_cons (ev_var (S := (rLst (rLst rInt)).s K r24) rfl (Sv.mono _ x43 (Sv.mono _ x36 (Sv.mono _ x31 h28)))) (ea_cons (ev_var (S := rInt.s K r1) rfl (Sv.mono _ x43 (Sv.mono _ x36 (Sv.mono _ x31 (Sv.mono _ x26 (Sv.mono _ x21 (Sv.mono _ x10 h6))))))) (ea_cons (ev_var (S := rInt.s K r7) rfl (Sv.mono _ x43 (Sv.mono _ x36 (Sv.mono _ x31 (Sv.mono _ x26 (Sv.mono _ x21 h12)))))) (ea_cons (ev_var (S := rInt.s K t19) rfl (Sv.mono _ x43 (Sv.mono _ x36 (Sv.mono _ x31 (Sv.mono _ x26 h23))))) ea_nil)))) (al_p (fun _ z => z) (al_p (fun _ z => z) (al_p (fun _ z => z) (al_p (fun _ z => z) al_nil)))) e46) (fun v_48 B47 H47 x47 w47 h49 => ?_)
      try dsimp only
      refine s_if w47 (et_test (ev_eqD dqTag (ev_T2a (ev_var (S := (rT2 rTag rInt).s K r29) rfl (Sv.mono _ x47 (Sv.mono _ x43 (Sv.mono _ x36 h33))))) (ev_tag tg_place) srd_s srd_s)) (fun hb B51 H51 x51 w51 => ?_) (fun hb B51 H51 x51 w51 => ?_)
      · have hm := it hb hm
        obtain ⟨t52, e53, hm⟩ := ob hm
        refine s_ret w51 (ev_andV (ev_eqD (dqT2 dqTag dqInt) (((ev_var (S := (rT2 rTag (rEi rInt rLL)).g K H43 r45) rfl (Sv.mono _ x51 h49)).le g_s).le (c_T2 (fun _ _ h_ => (c_inl h_)) e53)) (ev_var (S := (rT2 rTag rInt).s K r29) rfl (Sv.mono _ x51 (Sv.mono _ x47 (Sv.mono _ x43 (Sv.mono _ x36 h33))))) srd_s srd_s) (fun _ => (ev_eqD (dqLst (dqLst dqInt)) (ev_var (S := (rLst (rLst rInt)).s K r24) rfl (Sv.mono _ x51 (Sv.mono _ x47 (Sv.mono _ x43 (Sv.mono _ x36 (Sv.mono _ x31 h28)))))) (ev_var (S := (rLst (rLst rInt)).s K table) rfl (Sv.mono _ x51 (Sv.mono _ x47 (Sv.mono _ x43 (Sv.mono _ x36 (Sv.mono _ x31 (Sv.mono _ x26 (Sv.mono _ x21 (Sv.mono _ x10 (Sv.mono _ x4 z1)))))))))) srd_s srd_s)) (fun _ => rfl)) (fun vv B54 H54 x54 w54 hv => ?_)
        cases hm
        obtain ⟨oz, gz1, _, gz3, gz4⟩ := w54.cell.get (i := 0) rfl rfl
        exact k _ _ _ oz w54.st w54.ex gz1 gz3 gz4 ((imm_flat _) _ _ _ _ _ hv)
      · have hm := ie hb hm
        try dsimp only
        refine s_if w51 (et_not (et_test (ev_ch_le_le ev_int (ev_var (S := rInt.s K t19) rfl (Sv.mono _ x51 (Sv.mono _ x47 (Sv.mono _ x43 (Sv.mono _ x36 (Sv.mono _ x31 (Sv.mono _ x26 h23))))))) ev_int))) (fun hb B55 H55 x55 w55 => ?_) (fun hb B55 H55 x55 w55 => ?_)
        · have hm := it hb hm
          obtain ⟨t56, e57, hm⟩ := ob hm
          refine s_ret w55 (ev_andV (ev_eqD (dqT2 dqTag dqInt) (((ev_var (S := (rT2 rTag (rEi rInt rLL)).g K H43 r45) rfl (Sv.mono _ x55 (Sv.mono _ x51 h49))).le g_s).le (c_T2 (fun _ _ h_ => (c_inl h_)) e57)) (ev_T2 (ea_cons (ev_tag tg_number) (ea_cons (ev_var (S := rInt.s K t19) rfl (Sv.mono _ x55 (Sv.mono _ x51 (Sv.mono _ x47 (Sv.mono _ x43 (Sv.mono _ x36 (Sv.mono _ x31 (Sv.mono _ x26 h23)))))))) ea_nil))) srd_s srd_s) (fun _ => (ev_eqD (dqLst (dqLst dqInt)) (ev_var (S := (rLst (rLst rInt)).s K r24) rfl (Sv.mono _ x55 (Sv.mono _ x51 (Sv.mono _ x47 (Sv.mono _ x43 (Sv.mono _ x36 (Sv.mono _ x31 h28))))))) (ev_var (S := (rLst (rLst rInt)).s K table) rfl (Sv.mono _ x55 (Sv.mono _ x51 (Sv.mono _ x47 (Sv.mono _ x43 (Sv.mono _ x36 (Sv.mono _ x31 (Sv.mono _ x26 (Sv.mono _ x21 (Sv.mono _ x10 (Sv.mono _ x4 z1))))))))))) srd_s srd_s)) (fun _ => rfl)) (fun vv B58 H58 x58 w58 hv => ?_)
          cases hm
          obtain ⟨oz, gz1, _, gz3, gz4⟩ := w58.cell.get (i := 0) rfl rfl
          exact k _ _ _ oz w58.st w58.ex gz1 gz3 gz4 ((imm_flat _) _ _ _ _ _ hv)
        · have hm := ie hb hm
          obtain ⟨r59, e60, hm⟩ := ob hm
          refine s_ownT w55 (ev_call0 (g := table) (ea_cons (ev_var (S := (rLst (rLst rInt)).s K table) rfl (Sv.mono _ x55 (Sv.mono _ x51 (Sv.mono _ x47 (Sv.mono _ x43 (Sv.mono _ x36 (Sv.mono _ x31 (Sv.mono _ x26 (Sv.mono _ x21 (Sv.mono _ x10 (Sv.mono _ x4 z1))))))))))) ea_nil) (al_p (fun _ z => z) al_nil) e60) ⟨csi (imm_flat _), trivial⟩ (fun q62 rs63 B61 H61 x61 hl66 n64 nr65 w61 => ?_)
          obtain ⟨⟨j67, row68⟩, e69, hm⟩ := ob hm
          obtain ⟨hj71, hr72⟩ := rowO_eq e69
          obtain ⟨q70, hq73⟩ := rs_at hl66 hr72
          try dsimp only at hm
          refine s_asg w61 (ev_row 1 rfl (ev_var (S := SA q62) rfl rfl) (ev_var (S := rInt.s K r1) rfl (Sv.mono _ x61 (Sv.mono _ x55 (Sv.mono _ x51 (Sv.mono _ x47 (Sv.mono _ x43 (Sv.mono _ x36 (Sv.mono _ x31 (Sv.mono _ x26 (Sv.mono _ x21 (Sv.mono _ x10 h6))))))))))) rfl hl66 hj71 hq73) (fun v_75 B74 H74 x74 w74 h76 => ?_)
          cases (show v_75 = _ from h76)
          obtain ⟨row77, e78, hm⟩ := ob hm
          refine s_set (j67 + 2) (by simpa using hq73) w74 (ev_var (S := rInt.s K t19) rfl (Sv.mono _ x74 (Sv.mono _ x61 (Sv.mono _ x55 (Sv.mono _ x51 (Sv.mono _ x47 (Sv.mono _ x43 (Sv.mono _ x36 (Sv.mono _ x31 (Sv.mono _ x26 h23)))))))))) (ev_var (S := SA q70) rfl rfl) (ev_var (S := rInt.s K r7) rfl (Sv.mono _ x74 (Sv.mono _ x61 (Sv.mono _ x55 (Sv.mono _ x51 (Sv.mono _ x47 (Sv.mono _ x43 (Sv.mono _ x36 (Sv.mono _ x31 (Sv.mono _ x26 (Sv.mono _ x21 h12))))))))))) (show _ = some (CL rInt K row68) by simp [hr72, rInt, rTag, rBool]) e78 (fun B79 H79 x79 w79 => ?_)
          have w80 := Wd.eq (os' := (CL rInt K state18 :: CO rs63 :: List.map (CL rInt K) (r59.set j67 row77))) w79 (by simp [List.map_set, rInt, rTag, rBool])
          have hl81 := len_set (j := j67) (y := row77) hl66
          have hr82 := set_at (y := row77) hr72
          obtain ⟨b87, e88, hm⟩ := ob hm
          try dsimp only
          refine s_if w80 (et_orO (b := b87) (et_test (ev_neD dqTag (ev_T2a ((ev_var (S := (rT2 rTag (rEi rInt rLL)).g K H43 r45) rfl (Sv.mono _ x79 (Sv.mono _ x74 (Sv.mono _ x61 (Sv.mono _ x55 (Sv.mono _ x51 h49)))))).le g_s)) (ev_tag tg_table) srd_s srd_s)) (fun hc => by have e88 := ie hc e88; obtain ⟨t83, e84, e88⟩ := ob e88; obtain ⟨r85, e86, e88⟩ := ob e88; have hq_ := Option.some.inj e88; subst hq_; exact (et_or (et_not (et_B ((ev_call0 (g := (t83, (r59.set j67 row77))) (ea_cons (((ev_T2b ((ev_var (S := (rT2 rTag (rEi rInt rLL)).g K H43 r45) rfl (Sv.mono _ x79 (Sv.mono _ x74 (Sv.mono _ x61 (Sv.mono _ x55 (Sv.mono _ x51 h49)))))).le g_s)).le (c_inr e84)).le ll_s) (ea_cons (ev_var (S := SA q62) rfl rfl) ea_nil)) (al_p (fun _ z => z) (al_T [p0] [CL rInt K state18] rfl rfl rfl (fun a h => List.mem_append_right [p0] h) (fun _ z => z) al_nil)) e86).le g_s))) (fun _ => (et_test (ev_neD (dqLst (dqLst dqInt)) (ev_var (S := (rLst (rLst rInt)).s K r24) rfl (Sv.mono _ x79 (Sv.mono _ x74 (Sv.mono _ x61 (Sv.mono _ x55 (Sv.mono _ x51 (Sv.mono _ x47 (Sv.mono _ x43 (Sv.mono _ x36 (Sv.mono _ x31 h28)))))))))) (ev_var (S := (rLst (rLst rInt)).s K table) rfl (Sv.mono _ x79 (Sv.mono _ x74 (Sv.mono _ x61 (Sv.mono _ x55 (Sv.mono _ x51 (Sv.mono _ x47 (Sv.mono _ x43 (Sv.mono _ x36 (Sv.mono _ x31 (Sv.mono _ x26 (Sv.mono _ x21 (Sv.mono _ x10 (Sv.mono _ x4 z1)))))))))))))) srd_s srd_s))) (fun _ => rfl))) (fun hc => by have e88 := it hc e88; cases e88; exact ⟨rfl, rfl⟩)) (fun hb B89 H89 x89 w89 => ?_) (fun hb B89 H89 x89 w89 => ?_)
          · have hm := it hb hm
            refine s_ret w89 ev_bl (fun vv B90 H90 x90 w90 hv => ?_)
            cases hm
            obtain ⟨oz, gz1, _, gz3, gz4⟩ := w90.cell.get (i := 0) rfl rfl
            exact k _ _ _ oz w90.st w90.ex gz1 gz3 gz4 ((imm_flat _) _ _ _ _ _ hv)
          · have hm := ie hb hm
            obtain ⟨t91, e92, hm⟩ := ob hm
            obtain ⟨_, e93, hm⟩ := ob hm
            try dsimp only [tNext]
            refine s_spoil (x0 := (some (.ref q70))) (ks0 := [p0]) (ks1 := (q62 :: rs63)) (os0 := [CL rInt K state18]) (os1 := (CO rs63 :: List.map (CL rInt K) (r59.set j67 row77))) (n := 0) w89 rfl ⟨flt_int, trivial⟩ w43 ((((((x47.trans x51).trans x55).trans x61).trans x74).trans x79).trans x89) ((ev_T2bg (ev_var (S := (rT2 rTag (rEi rInt rLL)).g K H43 r45) rfl (Sv.mono _ x89 (Sv.mono _ x79 (Sv.mono _ x74 (Sv.mono _ x61 (Sv.mono _ x55 (Sv.mono _ x51 h49)))))))).le (c_inrG e92)) e93 rfl (fun ox95 B94 H94 x94 w94 => ?_)
            refine s_ret w94 (ev_eqD (dqLst (dqLst dqInt)) (ev_var (S := (rLst (rLst rInt)).s K r24) rfl (Sv.mono _ x94 (Sv.mono _ x43 (Sv.mono _ x36 (Sv.mono _ x31 h28))))) (ev_var (S := (rLst (rLst rInt)).s K table) rfl (Sv.mono _ x94 (Sv.mono _ x43 (Sv.mono _ x36 (Sv.mono _ x31 (Sv.mono _ x26 (Sv.mono _ x21 (Sv.mono _ x10 (Sv.mono _ x4 z1))))))))) srd_s srd_s) (fun vv B96 H96 x96 w96 hv => ?_)
            cases hm
            obtain ⟨oz, gz1, _, gz3, gz4⟩ := w96.cell.get (i := 0) rfl rfl
            exact k _ _ _ oz w96.st w96.ex gz1 gz3 gz4 ((imm_flat _) _ _ _ _ _ hv)
def m_law : (List Int) → Option (Bool) := fun script =>
  (m__law_start (script, (0 : Int))).bind fun r1 =>
  (m__law_size (r1, (5 : Int), (16 : Int))).bind fun (r3, tmp5) =>
  (m__law_start (script, (1 : Int))).bind fun r9 =>
  (m__law_tolls (r9, r3)).bind fun (r11, tmp13) =>
  (m__law_copy r11).bind fun r17 =>
  (m__law_start (script, (2 : Int))).bind fun r22 =>
  (m__law_tables_right (r22, r11)).bind fun (r24, tmp26) =>
  (cond (!r24) (some true) ((m__law_start (script, (3 : Int))).bind fun r27 => (m__law_roads_right (r27, r11)).bind fun (r29, tmp31) => some (!r29))).bind fun b32 =>
  cond b32 (some false) ((m__law_start (script, (4 : Int))).bind fun r36 =>
  (m__law_plan (r36, r3)).bind fun (r41, state43) =>
  (m__law_bent_plan (state43, r41)).bind fun (r47, state49) =>
  finK (fun (_ : Unit) => ((m__law_start (script, (5 : Int))).bind fun r58 =>
  (m__law_bills_right (r58, r11)).bind fun (r60, tmp62) =>
  some (r60 && (decide (r11 = r17))))) (fun (tt : Bool) => some tt) (forL (fun (asked51 : List Int) (_ : Unit) => ((m__law_plans_right (r11, asked51)).bind fun r52 =>
  cond (!r52) (some (.rt false)) (some (.nx ())) : Option (Ctl Unit Bool))) [r41, r47, r41] ()))
def p_law (K : Fg) : Sp := Pr0 K (fun (g : (List Int)) => [rScr.s K g]) m_law rBool
abbrev N_law : List Str := ["script", "size", "table", "kept", "state", "plan", "asked"]
theorem sc_law : FnScope N_law ["script"] (defScope s_law) := ⟨rfl, rfl, rfl, by decide +kernel, rfl, by decide +kernel, by decide +kernel⟩
theorem ok_law {P : Program} {w : World} {K : Fg} {mg : Str → Option Value} {base : Heap} (T : Tx P K mg) {fd : FuncData} (F : FnP K "law" s_law (He.ga K "law") fd) : FnOk P w K mg base (L2.CX P w) 8 (He.ga K "law") fd ["script"] (p_law K) := by
  obtain ⟨fd__law_bent_plan, F__law_bent_plan⟩ := T.f__law_bent_plan
  have G__law_bent_plan : FnOk P w K mg base (L2.CX P w) 2 (He.ga K "_law_bent_plan") fd__law_bent_plan ["state", "plan"] (p__law_bent_plan K) := ok__law_bent_plan T F__law_bent_plan
  have b__law_bent_plan : Binds K fd__law_bent_plan ["state", "plan"] [] := F__law_bent_plan.bindsN fun _ _ _ _ _ _ us hl => match us, hl with | [_, _], _ => rfl
  obtain ⟨fd__law_bills_right, F__law_bills_right⟩ := T.f__law_bills_right
  have G__law_bills_right : FnOk P w K mg base (L2.CX P w) 6 (He.ga K "_law_bills_right") fd__law_bills_right ["state", "table"] (p__law_bills_right K) := ok__law_bills_right T F__law_bills_right
  have b__law_bills_right : Binds K fd__law_bills_right ["state", "table"] [] := F__law_bills_right.bindsN fun _ _ _ _ _ _ us hl => match us, hl with | [_, _], _ => rfl
  obtain ⟨fd__law_copy, F__law_copy⟩ := T.f__law_copy
  have G__law_copy : FnOk P w K mg base (L2.CX P w) 1 (He.ga K "_law_copy") fd__law_copy ["table"] (p__law_copy K) := ok__law_copy T F__law_copy
  have b__law_copy : Binds K fd__law_copy ["table"] [] := F__law_copy.bindsN fun _ _ _ _ _ _ us hl => match us, hl with | [_], _ => rfl
  obtain ⟨fd__law_plan, F__law_plan⟩ := T.f__law_plan
  have G__law_plan : FnOk P w K mg base (L2.CX P w) 3 (He.ga K "_law_plan") fd__law_plan ["state", "size"] (p__law_plan K) := ok__law_plan T F__law_plan
  have b__law_plan : Binds K fd__law_plan ["state", "size"] [] := F__law_plan.bindsN fun _ _ _ _ _ _ us hl => match us, hl with | [_, _], _ => rfl
  obtain ⟨fd__law_plans_right, F__law_plans_right⟩ := T.f__law_plans_right
  have G__law_plans_right : FnOk P w K mg base (L2.CX P w) 6 (He.ga K "_law_plans_right") fd__law_plans_right ["table", "plan"] (p__law_plans_right K) := ok__law_plans_right T F__law_plans_right
  have b__law_plans_right : Binds K fd__law_plans_right ["table", "plan"] [] := F__law_plans_right.bindsN fun _ _ _ _ _ _ us hl => match us, hl with | [_, _], _ => rfl
  obtain ⟨fd__law_roads_right, F__law_roads_right⟩ := T.f__law_roads_right
  have G__law_roads_right : FnOk P w K mg base (L2.CX P w) 7 (He.ga K "_law_roads_right") fd__law_roads_right ["state", "table"] (p__law_roads_right K) := ok__law_roads_right T F__law_roads_right
  have b__law_roads_right : Binds K fd__law_roads_right ["state", "table"] [] := F__law_roads_right.bindsN fun _ _ _ _ _ _ us hl => match us, hl with | [_, _], _ => rfl
  obtain ⟨fd__law_size, F__law_size⟩ := T.f__law_size
  have G__law_size : FnOk P w K mg base (L2.CX P w) 2 (He.ga K "_law_size") fd__law_size ["state", "most", "more"] (p__law_size K) := ok__law_size T F__law_size
  have b__law_size : Binds K fd__law_size ["state", "most", "more"] [] := F__law_size.bindsN fun _ _ _ _ _ _ us hl => match us, hl with | [_, _, _], _ => rfl
  obtain ⟨fd__law_start, F__law_start⟩ := T.f__law_start
  have G__law_start : FnOk P w K mg base (L2.CX P w) 1 (He.ga K "_law_start") fd__law_start ["script", "at"] (p__law_start K) := ok__law_start T F__law_start
  have b__law_start : Binds K fd__law_start ["script", "at"] [] := F__law_start.bindsN fun _ _ _ _ _ _ us hl => match us, hl with | [_, _], _ => rfl
  obtain ⟨fd__law_tables_right, F__law_tables_right⟩ := T.f__law_tables_right
  have G__law_tables_right : FnOk P w K mg base (L2.CX P w) 7 (He.ga K "_law_tables_right") fd__law_tables_right ["state", "table"] (p__law_tables_right K) := ok__law_tables_right T F__law_tables_right
  have b__law_tables_right : Binds K fd__law_tables_right ["state", "table"] [] := F__law_tables_right.bindsN fun _ _ _ _ _ _ us hl => match us, hl with | [_, _], _ => rfl
  obtain ⟨fd__law_tolls, F__law_tolls⟩ := T.f__law_tolls
  have G__law_tolls : FnOk P w K mg base (L2.CX P w) 2 (He.ga K "_law_tolls") fd__law_tolls ["state", "size"] (p__law_tolls K) := ok__law_tolls T F__law_tolls
  have b__law_tolls : Binds K fd__law_tolls ["state", "size"] [] := F__law_tolls.bindsN fun _ _ _ _ _ _ us hl => match us, hl with | [_, _], _ => rfl
  have sc := sc_law
  refine F.ok sc (fun vs H Q E h => ?_) (fun cdv A outer s H vs Q E hr h => ?_)
  · obtain ⟨g, z, B, ss, _⟩ := h
    exact (Paired.length ss).trans rfl
  · obtain ⟨script, z, B, ss, ex, hm, k⟩ := h
    obtain ⟨v0, rfl, z0⟩ := pn1 ss
    have hu := hr.units
    refine ⟨_, (pss_cons (ps_set (i := 1) sc.nd rfl (Or.inl rfl) (pe_call G__law_size (hr.mono (by decide)) (by rfl) T.m__law_size F__law_size.kp b__law_size .nil passL (pa_cons (pe_call G__law_start (hr.mono (by decide)) (by rfl) T.m__law_start F__law_start.kp b__law_start .nil passL (pa_cons (pv 0) (pa_cons pe_int pa_nil))) (pa_cons pe_int (pa_cons pe_int pa_nil))))) (pss_cons (ps_set (i := 2) sc.nd rfl (Or.inl rfl) (pe_call G__law_tolls (hr.mono (by decide)) (by rfl) T.m__law_tolls F__law_tolls.kp b__law_tolls .nil passL (pa_cons (pe_call G__law_start (hr.mono (by decide)) (by rfl) T.m__law_start F__law_start.kp b__law_start .nil passL (pa_cons (pv 0) (pa_cons pe_int pa_nil))) (pa_cons (pv 1) pa_nil)))) (pss_cons (ps_set (i := 3) sc.nd rfl (Or.inl rfl) (pe_call G__law_copy (hr.mono (by decide)) (by rfl) T.m__law_copy F__law_copy.kp b__law_copy .nil passL (pa_cons (pv 2) pa_nil))) (pss_cons (ps_if (PW.pt (pw_or (pt_not (pt_val (pe_call G__law_tables_right (hr.mono (by decide)) (by rfl) T.m__law_tables_right F__law_tables_right.kp b__law_tables_right .nil passL (pa_cons (pe_call G__law_start (hr.mono (by decide)) (by rfl) T.m__law_start F__law_start.kp b__law_start .nil passL (pa_cons (pv 0) (pa_cons pe_int pa_nil))) (pa_cons (pv 2) pa_nil))))) (pw_or1 (pt_not (pt_val (pe_call G__law_roads_right (hr.mono (by decide)) (by rfl) T.m__law_roads_right F__law_roads_right.kp b__law_roads_right .nil passL (pa_cons (pe_call G__law_start (hr.mono (by decide)) (by rfl) T.m__law_start F__law_start.kp b__law_start .nil passL (pa_cons (pv 0) (pa_cons pe_int pa_nil))) (pa_cons (pv 2) pa_nil)))))))) (pss_one (ps_ret pe_bl)) pss_nil) (pss_cons (ps_set (i := 4) sc.nd rfl (Or.inl rfl) (pe_call G__law_start (hr.mono (by decide)) (by rfl) T.m__law_start F__law_start.kp b__law_start .nil passL (pa_cons (pv 0) (pa_cons pe_int pa_nil)))) (pss_cons (ps_set (i := 5) sc.nd rfl (Or.inl rfl) (pe_call G__law_plan (hr.mono (by decide)) (by rfl) T.m__law_plan F__law_plan.kp b__law_plan .nil passL (pa_cons (pv 4) (pa_cons (pv 1) pa_nil)))) (pss_cons (ps_for (passes_of rfl) rfl (pi_list (pe_lst (pa_cons (pv 5) (pa_cons (pe_call G__law_bent_plan (hr.mono (by decide)) (by rfl) T.m__law_bent_plan F__law_bent_plan.kp b__law_bent_plan .nil passL (pa_cons (pv 4) (pa_cons (pv 5) pa_nil))) (pa_cons (pv 5) pa_nil))))) (pg_name (i := 6) sc.nd rfl (Or.inl rfl)) (pss_one (ps_if (pt_not (pt_val (pe_call G__law_plans_right (hr.mono (by decide)) (by rfl) T.m__law_plans_right F__law_plans_right.kp b__law_plans_right .nil passL (pa_cons (pv 2) (pa_cons (pv 6) pa_nil))))) (pss_one (ps_ret pe_bl)) pss_nil))) (pss_one (ps_ret (pe_and (pe_call G__law_bills_right (hr.mono (by decide)) (by rfl) T.m__law_bills_right F__law_bills_right.kp b__law_bills_right .nil passL (pa_cons (pe_call G__law_start (hr.mono (by decide)) (by rfl) T.m__law_start F__law_start.kp b__law_start .nil passL (pa_cons (pv 0) (pa_cons pe_int pa_nil))) (pa_cons (pv 2) pa_nil))) (pe_one (pe_cmpR (opeqD (K := K) rfl hu) (pv 2) (pv 3) (nomark _))))))))))))), ?_⟩
    have w := Wd.start (K := K) ex
    unfold m_law at hm
    obtain ⟨r1, e2, hm⟩ := ob hm
    obtain ⟨⟨r3, tmp5⟩, e4, hm⟩ := ob hm
    try dsimp only at hm
    try dsimp only [tNext]
    refine s_asg w ((ev_call1f (as := fun (g_ : (List Int) × Int × Int) p_ => [SA p_, rInt.s K g_.2.1, rInt.s K g_.2.2]) (Ci := fun (g_ : (List Int) × Int × Int) => CL rInt K g_.1) (g := (r1, (5 : Int), (16 : Int))) (fun Hh_ => ((ev_call0 (g := (script, (0 : Int))) (ea_cons (ev_var (S := rScr.s K script) rfl z0) (ea_cons ev_int ea_nil)) (al_p (fun _ z => z) (al_p (fun _ z => z) al_nil)) e2).le g_sn)) (imm_flat _) (show AllI [] from trivial) (fun pT => (ea_cons ev_int (ea_cons ev_int ea_nil))) rfl (fun pT => (al_p (fun _ z => List.mem_cons_of_mem _ z) (al_p (fun _ z => List.mem_cons_of_mem _ z) (al_p (fun _ z => List.mem_cons_of_mem _ z) al_nil)))) e4 (csi (imm_flat _))).le g_s) (fun v_7 B6 H6 x6 w6 h8 => ?_)
    obtain ⟨r9, e10, hm⟩ := ob hm
    obtain ⟨⟨r11, tmp13⟩, e12, hm⟩ := ob hm
    try dsimp only at hm
    try dsimp only [tNext]
    refine s_asg w6 (ev_call1fa (as := fun (g_ : (List Int) × Int) p_ => [SA p_, rInt.s K g_.2]) (Ci := fun (g_ : (List Int) × Int) => CL rInt K g_.1) (g := (r9, r3)) (fun Hh_ => ((ev_call0 (g := (script, (1 : Int))) (ea_cons (ev_var (S := rScr.s K script) rfl (Sv.mono _ x6 z0)) (ea_cons ev_int ea_nil)) (al_p (fun _ z => z) (al_p (fun _ z => z) al_nil)) e10).le g_sn)) (imm_flat _) (show AllI [] from trivial) (fun pT => (ea_cons (ev_var (S := rInt.s K r3) rfl h8) ea_nil)) rfl (fun pT => (al_p (fun _ z => absurd z List.not_mem_nil) (al_p (fun _ z => absurd z List.not_mem_nil) al_nil))) e12) (fun v_15 B14 H14 x14 w14 h16 => ?_)
    obtain ⟨r17, e18, hm⟩ := ob hm
    refine s_asg w14 ((ev_call0 (g := r11) (ea_cons (ev_var (S := (rLst (rLst rInt)).s K r11) rfl h16) ea_nil) (al_p (fun _ z => z) al_nil) e18).le llg_s) (fun v_20 B19 H19 x19 w19 h21 => ?_)
    obtain ⟨r22, e23, hm⟩ := ob hm
    obtain ⟨⟨r24, tmp26⟩, e25, hm⟩ := ob hm
    try dsimp only at hm
    obtain ⟨b32, e33, hm⟩ := ob hm
    try dsimp only
    refine s_if w19 (et_orO (b := b32) (et_not (et_B ((ev_call1f (as := fun (g_ : (List Int) × (List (List Int))) p_ => [SA p_, (rLst (rLst rInt)).s K g_.2]) (Ci := fun (g_ : (List Int) × (List (List Int))) => CL rInt K g_.1) (g := (r22, r11)) (fun Hh_ => ((ev_call0 (g := (script, (2 : Int))) (ea_cons (ev_var (S := rScr.s K script) rfl (Sv.mono _ x19 (Sv.mono _ x14 (Sv.mono _ x6 z0)))) (ea_cons ev_int ea_nil)) (al_p (fun _ z => z) (al_p (fun _ z => z) al_nil)) e23).le g_sn)) (imm_flat _) (show AllI [] from trivial) (fun pT => (ea_cons (ev_var (S := (rLst (rLst rInt)).s K r11) rfl (Sv.mono _ x19 h16)) ea_nil)) rfl (fun pT => (al_p (fun _ z => List.mem_cons_of_mem _ z) (al_p (fun _ z => List.mem_cons_of_mem _ z) al_nil))) e25 (csi (imm_flat _))).le g_s))) (fun hc => by have e33 := ie hc e33; obtain ⟨r27, e28, e33⟩ := ob e33; obtain ⟨⟨r29, tmp31⟩, e30, e33⟩ := ob e33; try dsimp only at e33; have hq_ := Option.some.inj e33; subst hq_; exact (et_not (et_B ((ev_call1f (as := fun (g_ : (List Int) × (List (List Int))) p_ => [SA p_, (rLst (rLst rInt)).s K g_.2]) (Ci := fun (g_ : (List Int) × (List (List Int))) => CL rInt K g_.1) (g := (r27, r11)) (fun Hh_ => ((ev_call0 (g := (script, (3 : Int))) (ea_cons (ev_var (S := rScr.s K script) rfl (Sv.mono _ x19 (Sv.mono _ x14 (Sv.mono _ x6 z0)))) (ea_cons ev_int ea_nil)) (al_p (fun _ z => z) (al_p (fun _ z => z) al_nil)) e28).le g_sn)) (imm_flat _) (show AllI [] from trivial) (fun pT => (ea_cons (ev_var (S := (rLst (rLst rInt)).s K r11) rfl (Sv.mono _ x19 h16)) ea_nil)) rfl (fun pT => (al_p (fun _ z => List.mem_cons_of_mem _ z) (al_p (fun _ z => List.mem_cons_of_mem _ z) al_nil))) e30 (csi (imm_flat _))).le g_s)))) (fun hc => by have e33 := it hc e33; cases e33; exact ⟨rfl, rfl⟩)) (fun hb B34 H34 x34 w34 => ?_) (fun hb B34 H34 x34 w34 => ?_)
    · have hm := it hb hm
      refine s_ret w34 ev_bl (fun vv B35 H35 x35 w35 hv => ?_)
      cases hm
      exact k _ _ _ w35.st w35.ex ((imm_flat _) _ _ _ _ _ hv)
    · have hm := ie hb hm
      obtain ⟨r36, e37, hm⟩ := ob hm
      refine s_own w34 ((ev_call0 (g := (script, (4 : Int))) (ea_cons (ev_var (S := rScr.s K script) rfl (Sv.mono _ x34 (Sv.mono _ x19 (Sv.mono _ x14 (Sv.mono _ x6 z0))))) (ea_cons ev_int ea_nil)) (al_p (fun _ z => z) (al_p (fun _ z => z) al_nil)) e37).le g_sn) (imm_flat _) trivial (fun q39 B38 H38 x38 n40 w38 => ?_)
      obtain ⟨⟨r41, state43⟩, e42, hm⟩ := ob hm
      try dsimp only at hm
      refine s_asg w38 ((ev_call1 (g := (r36, r3)) 0 rfl (ea_cons (ev_var (S := SA q39) rfl rfl) (ea_cons (ev_var (S := rInt.s K r3) rfl (Sv.mono _ x38 (Sv.mono _ x34 (Sv.mono _ x19 (Sv.mono _ x14 h8))))) ea_nil)) rfl (al_p (fun a z => List.mem_of_mem_eraseIdx z) (al_p (fun a z => List.mem_of_mem_eraseIdx z) al_nil)) e42 (csi (imm_flat _))).le g_s) (fun v_45 B44 H44 x44 w44 h46 => ?_)
      obtain ⟨⟨r47, state49⟩, e48, hm⟩ := ob hm
      try dsimp only at hm
      refine s_for (R := (rLst rInt)) (oo := (fun (rr : Unit) => [CL rInt K state49])) (ρ0 := ()) (fun (asked51 : List Int) (_ : Unit) => ((m__law_plans_right (r11, asked51)).bind fun r52 =>
cond (!r52) (some (.rt false)) (some (.nx ())) : Option (Ctl Unit Bool))) (fun (_ : Unit) σ' B' => ∃ o_6 : Option V, σ' = [some v0, some v_7, some v_15, some v_20, some (.ref q39), some v_45, o_6]) (fun zz => finK _ _ zz = some _) w44 (ei_list ((ev_lst (R := (rLst rInt)) (xs := [r41, r47, r41]) (ea_cons (ev_var (S := (rLst rInt).s K r41) rfl h46) (ea_cons (ev_call1a (g := (state43, r41)) 0 rfl (ea_cons (ev_var (S := SA q39) rfl rfl) (ea_cons (ev_var (S := (rLst rInt).s K r41) rfl h46) ea_nil)) rfl (al_p (fun _ z => absurd z List.not_mem_nil) (al_p (fun _ z => absurd z List.not_mem_nil) al_nil)) e48) (ea_cons (ev_var (S := (rLst rInt).s K r41) rfl h46) ea_nil))) (by show 3 ≤ 1000; decide)).le sn_s)) (fun rr σ' B1 B2 e ⟨o_6, hσ⟩ => ⟨o_6, hσ⟩) (fun B2 e => ⟨_, rfl⟩) hm ?_ ?_
      · rintro asked51 rst rr vx50 σ' Bt50 Ht50 xt50 wt50 ⟨o_6t50, rfl⟩ hx50 hf N hN dn
        dsimp only [gName]
        obtain ⟨ctl, hfx, hbk50, hrt50⟩ := forL_step hf
        have hm := hfx
        obtain ⟨r52, e53, hm⟩ := ob hm
        try dsimp only
        refine s_if wt50 (et_not (et_B ((ev_call0 (g := (r11, asked51)) (ea_cons (ev_var (S := (rLst (rLst rInt)).s K r11) rfl (Sv.mono _ xt50 (Sv.mono _ x44 (Sv.mono _ x38 (Sv.mono _ x34 (Sv.mono _ x19 h16)))))) (ea_cons (ev_var (S := (rLst rInt).s K asked51) rfl hx50) ea_nil)) (al_p (fun _ z => z) (al_p (fun _ z => z) al_nil)) e53).le g_s))) (fun hb B54 H54 x54 w54 => ?_) (fun hb B54 H54 x54 w54 => ?_)
        · have hm := it hb hm
          refine s_ret w54 ev_bl (fun vv B55 H55 x55 w55 hv => ?_)
          cases hm
          replace hm := hrt50 _ rfl
          cases hm
          exact k _ _ _ w55.st w55.ex ((imm_flat _) _ _ _ _ _ hv)
        · have hm := ie hb hm
          have hq_ := Option.some.inj hm
          subst hq_
          exact hN () _ _ _ hfx x54 w54 ⟨_, rfl⟩
      · rintro rr σ' B56 H56 x56 w56 ⟨o_6k57, rfl⟩ hm
        try dsimp only
        replace hm := finK_nx hm
        obtain ⟨r58, e59, hm⟩ := ob hm
        obtain ⟨⟨r60, tmp62⟩, e61, hm⟩ := ob hm
        try dsimp only at hm
        refine s_ret w56 (ev_andV ((ev_call1f (as := fun (g_ : (List Int) × (List (List Int))) p_ => [SA p_, (rLst (rLst rInt)).s K g_.2]) (Ci := fun (g_ : (List Int) × (List (List Int))) => CL rInt K g_.1) (g := (r58, r11)) (fun Hh_ => ((ev_call0 (g := (script, (5 : Int))) (ea_cons (ev_var (S := rScr.s K script) rfl (Sv.mono _ x56 (Sv.mono _ x44 (Sv.mono _ x38 (Sv.mono _ x34 (Sv.mono _ x19 (Sv.mono _ x14 (Sv.mono _ x6 z0)))))))) (ea_cons ev_int ea_nil)) (al_p (fun _ z => z) (al_p (fun _ z => z) al_nil)) e59).le g_sn)) (imm_flat _) (show AllI [CL rInt K state49] from ⟨csi (imm_flat _), trivial⟩) (fun pT => (ea_cons (ev_var (S := (rLst (rLst rInt)).s K r11) rfl (Sv.mono _ x56 (Sv.mono _ x44 (Sv.mono _ x38 (Sv.mono _ x34 (Sv.mono _ x19 h16)))))) ea_nil)) rfl (fun pT => (al_p (fun _ z => List.mem_cons_of_mem _ z) (al_p (fun _ z => List.mem_cons_of_mem _ z) al_nil))) e61 (csi (imm_flat _))).le g_s) (fun _ => (ev_eqD (dqLst (dqLst dqInt)) (ev_var (S := (rLst (rLst rInt)).s K r11) rfl (Sv.mono _ x56 (Sv.mono _ x44 (Sv.mono _ x38 (Sv.mono _ x34 (Sv.mono _ x19 h16)))))) (ev_var (S := (rLst (rLst rInt)).s K r17) rfl (Sv.mono _ x56 (Sv.mono _ x44 (Sv.mono _ x38 (Sv.mono _ x34 h21))))) srd_s srd_s)) (fun _ => rfl)) (fun vv B63 H63 x63 w63 hv => ?_)
        cases hm
        exact k _ _ _ w63.st w63.ex ((imm_flat _) _ _ _ _ _ hv)
end G

/-! M1 -/
set_option Elab.async false
set_option linter.all false
set_option maxRecDepth 100000
set_option maxHeartbeats 1000000
namespace M
open PySem Dl G
open L2 (atI ixN)
/-! ### tools -/
theorem rng {n : Int} (h0 : 0 ≤ n) (h1 : n ≤ 1000000) : rngO 0 n = some (rangeI 0 n) := by
  unfold rngO
  rw [if_pos (by omega)]
theorem rng_nat (n : Nat) : rangeI 0 (n : Int) = (List.range n).map fun (k : Nat) => (k : Int) := by
  unfold rangeI
  rw [Int.sub_zero, Int.toNat_natCast]
  exact List.map_congr_left fun k _ => Int.zero_add _
theorem mem_rng {n x : Int} : x ∈ rangeI 0 n ↔ 0 ≤ x ∧ x < n := by
  unfold rangeI
  rw [List.mem_map]
  constructor
  · rintro ⟨k, hk, rfl⟩
    rw [List.mem_range] at hk
    omega
  · rintro ⟨h1, h2⟩
    exact ⟨x.toNat, by rw [List.mem_range]; omega, by omega⟩
theorem rng_len {n : Int} : (rangeI 0 n).length = n.toNat := by
  unfold rangeI
  rw [List.length_map, List.length_range, Int.sub_zero]
theorem ixN_pos {n : Nat} {i : Int} (h0 : 0 ≤ i) (h1 : i < n) : ixN n i = some i.toNat := by
  unfold ixN
  rw [if_pos h0, if_pos h1]
theorem at_ {α : Type} {xs : List α} {i : Int} (h0 : 0 ≤ i) (h1 : i < xs.length) : ∃ x, atI xs i = some x ∧ xs[i.toNat]? = some x := by
  unfold atI
  rw [ixN_pos h0 h1]
  have h : i.toNat < xs.length := by omega
  exact ⟨xs[i.toNat], List.getElem?_eq_getElem h, List.getElem?_eq_getElem h⟩
theorem set_ {α : Type} {xs : List α} {i : Int} (x : α) (h0 : 0 ≤ i) (h1 : i < xs.length) : setO xs i x = some (xs.set i.toNat x) := by
  unfold setO
  rw [ixN_pos h0 h1]
theorem lc_pure {α β : Type} {tf : α → Unit → Option (Bool × Unit)} {ef : α → Unit → Option (β × Unit)} (t : α → Bool) (e : α → β) : ∀ {xs : List α}, (∀ x ∈ xs, tf x () = some (t x, ())) → (∀ x ∈ xs, t x = true → ef x () = some (e x, ())) → lcM tf ef xs () = some ((xs.filter t).map e, ())
  | [], _, _ => rfl
  | x :: xs, h1, h2 => by
    have ih := lc_pure t e (xs := xs) (fun y hy => h1 y (List.mem_cons_of_mem _ hy)) fun y hy => h2 y (List.mem_cons_of_mem _ hy)
    unfold lcM
    rw [h1 x List.mem_cons_self]
    cases ht : t x with
    | false =>
      simp only [ih]
      rw [List.filter_cons_of_neg (by simp [ht])]
    | true =>
      simp only [h2 x List.mem_cons_self ht, ih]
      rw [List.filter_cons_of_pos ht]
      rfl
theorem lcO_pure {α β : Type} {tf : α → Unit → Option (Bool × Unit)} {ef : α → Unit → Option (β × Unit)} {xs : List α} (t : α → Bool) (e : α → β) (hl : xs.length ≤ 1000000) (h1 : ∀ x ∈ xs, tf x () = some (t x, ())) (h2 : ∀ x ∈ xs, t x = true → ef x () = some (e x, ())) : lcO tf ef xs () = some ((xs.filter t).map e, ()) := by
  unfold lcO
  rw [if_pos hl, lc_pure t e h1 h2]
theorem lcO_all {α β : Type} {ef : α → Unit → Option (β × Unit)} {xs : List α} (e : α → β) (hl : xs.length ≤ 1000000) (h2 : ∀ x ∈ xs, ef x () = some (e x, ())) : lcO (fun x (rr : Unit) => match rr with | () => some (true, ())) ef xs () = some (xs.map e, ()) := by
  rw [lcO_pure (fun _ => true) e hl (fun _ _ => rfl) fun x hx _ => h2 x hx]
  rw [List.filter_eq_self.mpr fun _ _ => rfl]
/-- a search: the first bad one ends it -/
theorem for_find {α τ : Type} {f : α → Unit → Option (Ctl Unit τ)} (bad : α → Bool) (r : α → τ) : ∀ {xs : List α}, (∀ x ∈ xs, f x () = some (if bad x then .rt (r x) else .nx ())) → forL f xs () = some (match xs.find? bad with | some x => .rt (r x) | none => .nx ())
  | [], _ => rfl
  | x :: xs, h => by
    unfold forL
    rw [h x List.mem_cons_self, List.find?_cons]
    cases hb : bad x with
    | true => simp
    | false =>
      simp only [Bool.false_eq_true, if_false]
      exact for_find bad r fun y hy => h y (List.mem_cons_of_mem _ hy)
/-! ### drawing -/
def S3 (s : List Int) : Prop := ∃ a b c, s = [a, b, c]
theorem mul_l {m n : Int} (h : -(2 ^ 64) < n ∧ n < 2 ^ 64) : mulO m n = some (m * n) := by
  unfold mulO
  rw [if_pos (.inr h)]
theorem mod_ {m n : Int} (h : n ≠ 0) : modO m n = some (m.fmod n) := by
  unfold modO
  rw [if_pos h]
theorem div_ {m n : Int} (h : n ≠ 0 ∧ n.natAbs < 1073741824) : divO m n = some (m.fdiv n) := by
  unfold divO
  rw [if_pos h]
theorem draw {s : List Int} {many : Int} (hs : S3 s) (h0 : 0 < many) (h1 : many < 1073741824) : ∃ d s', m__law_draw (s, many) = some (d, s') ∧ 0 ≤ d ∧ d < many ∧ S3 s' := by
  obtain ⟨a, b, c, rfl⟩ := hs
  have e0 : atI [a, b, c] 0 = some a := rfl
  have fm : ∀ m n : Int, 0 < n → 0 ≤ m.fmod n ∧ m.fmod n < n := fun m n h => ⟨Int.fmod_nonneg_of_pos m h, Int.fmod_lt_of_pos m h⟩
  unfold m__law_draw
  dsimp only
  rw [e0]
  simp only [Option.bind_some]
  by_cases ha : 0 < a
  · rw [decide_eq_true ha]
    simp only [cond_true, mod_ (show many ≠ 0 by omega), div_ (show many ≠ 0 ∧ many.natAbs < 1073741824 by omega), Option.bind_some]
    have e1 : setO [a, b, c] 0 (a.fdiv many) = some [a.fdiv many, b, c] := rfl
    rw [e1]
    exact ⟨_, _, rfl, (fm a many h0).1, (fm a many h0).2, _, _, _, rfl⟩
  · rw [decide_eq_false ha]
    have e2 : atI [a, b, c] 2 = some c := rfl
    have e3 : setO [a, b, c] 2 (c + 1) = some [a, b, c + 1] := rfl
    have e4 : atI [a, b, c + 1] 1 = some b := rfl
    have e5 : atI [a, b, c + 1] 2 = some (c + 1) := rfl
    simp only [cond_false, e2, e3, e4, e5, Option.bind_some, mul_l (m := b) (n := 48271) (by decide), mul_l (m := c + 1) (n := 69621) (by decide), mul_l (m := c + 1) (n := 40692) (by decide), mod_ (n := 2147483647) (by decide), mod_ (n := 2147483399) (by decide), mod_ (n := 2147483563) (by decide), div_ (n := 8) (by decide), mod_ (show many ≠ 0 by omega)]
    have q1 := fm (b * 48271 + (c + 1) * 69621 + 11) 2147483647 (by decide)
    rw [mul_l (by omega)]
    simp only [Option.bind_some, mod_ (n := 2147483399) (by decide)]
    have q2 := fm ((b * 48271 + (c + 1) * 69621 + 11).fmod 2147483647 * (b * 48271 + (c + 1) * 69621 + 11).fmod 2147483647 + (c + 1) * 40692 + 7) 2147483399 (by decide)
    rw [mul_l (by omega)]
    simp only [Option.bind_some, mod_ (n := 2147483563) (by decide), div_ (n := 8) (by decide), mod_ (show many ≠ 0 by omega)]
    exact ⟨_, _, rfl, (fm _ many h0).1, (fm _ many h0).2, _, _, _, rfl⟩
theorem start (ns : List Int) (k : Int) (h : 0 ≤ k) : ∃ s, m__law_start (ns, k) = some s ∧ S3 s := by
  have e1 : ∃ f, (cond (decide ((0 : Int) < (ns.length : Int))) ((atI ns (0 : Int)).bind fun t6 => (modO (if t6 < 0 then -t6 else t6) (1000000007 : Int)).bind fun t8 => some t8) (some (0 : Int))) = some f := by
    by_cases hl : (0 : Int) < (ns.length : Int)
    · obtain ⟨x, hx, _⟩ := at_ (xs := ns) (i := 0) (Int.le_refl _) hl
      rw [decide_eq_true hl, cond_true, hx]
      simp only [Option.bind_some, mod_ (n := 1000000007) (by decide)]
      exact ⟨_, rfl⟩
    · rw [decide_eq_false hl]
      exact ⟨_, rfl⟩
  obtain ⟨f, e1⟩ := e1
  unfold m__law_start
  dsimp only
  rw [e1]
  simp only [Option.bind_some]
  by_cases hk : (ns.length : Int) ≤ k
  · rw [decide_eq_true hk, cond_true]
    simp only [mul_l (n := 31) (by decide), mul_l (n := 1009) (by decide), Option.bind_some]
    exact ⟨_, rfl, _, _, _, rfl⟩
  · obtain ⟨x, hx, _⟩ := at_ (xs := ns) (i := k) h (by omega)
    rw [decide_eq_false hk, cond_false, hx]
    simp only [Option.bind_some]
    by_cases hc : (if x < 0 then -x else x) < ((10 : Int) ^ (18 : Int).toNat)
    · rw [decide_eq_true hc, cond_true]
      simp only [mod_ (n := 1000000007) (by decide), mul_l (n := 101) (by decide), Option.bind_some]
      exact ⟨_, rfl, _, _, _, rfl⟩
    · rw [decide_eq_false hc, cond_false]
      simp only [mod_ (n := 1000000007) (by decide), Option.bind_some]
      exact ⟨_, rfl, _, _, _, rfl⟩
theorem draw_size {s : List Int} {a b : Int} (hs : S3 s) (ha : 0 < a ∧ a ≤ 16) (hb : 0 < b ∧ b ≤ 16) : ∃ n s', m__law_size (s, a, b) = some (n, s') ∧ 1 ≤ n ∧ n ≤ 16 ∧ S3 s' := by
  obtain ⟨d, s1, e1, d1, d2, h1⟩ := draw hs (many := 8) (by decide) (by decide)
  unfold m__law_size
  simp only [e1, Option.bind_some]
  by_cases hd : d = 0
  · obtain ⟨d', s2, e2, d3, d4, h2⟩ := draw h1 (many := b) hb.1 (by omega)
    simp only [hd, decide_true, cond_true, e2, Option.bind_some]
    exact ⟨_, _, rfl, by omega, by omega, h2⟩
  · obtain ⟨d', s2, e2, d3, d4, h2⟩ := draw h1 (many := a) ha.1 (by omega)
    simp only [hd, decide_false, cond_false, e2, Option.bind_some]
    exact ⟨_, _, rfl, by omega, by omega, h2⟩
end M

/-! M2 -/
set_option Elab.async false
set_option linter.all false
set_option maxRecDepth 100000
set_option maxHeartbeats 1000000
namespace M
open PySem Dl G
open L2 (atI ixN)
theorem at_n {α : Type} {xs : List α} {e : Nat} (d : α) (h : e < xs.length) : atI xs (e : Int) = some (xs.getD e d) := by
  obtain ⟨x, h1, h2⟩ := at_ (xs := xs) (i := (e : Int)) (by omega) (by omega)
  rw [Int.toNat_natCast] at h2
  rw [h1, List.getD_eq_getElem?_getD, h2]
  rfl
theorem at_p {α : Type} {xs : List α} {i : Int} (d : α) (h0 : 0 ≤ i) (h : i < xs.length) : atI xs i = some (xs.getD i.toNat d) := by
  have z := at_n (xs := xs) (e := i.toNat) d (by omega)
  rw [Int.toNat_of_nonneg h0] at z
  exact z
theorem at_m1 {α : Type} {xs : List α} {n : Nat} (d : α) (h : xs.length = n + 1) : atI xs (-1) = some (xs.getD n d) := by
  unfold atI ixN
  rw [if_neg (by omega), if_pos (by omega)]
  have e : ((-1 : Int) + (xs.length : Int)).toNat = n := by omega
  rw [e]
  show xs[n]? = _
  rw [List.getD_eq_getElem?_getD, List.getElem?_eq_getElem (by omega)]
  rfl
theorem ends {n : Int} {ps : List Int} (h0 : 0 ≤ n) (h1 : n ≤ 900000) : m_ends_outside (n, ps) = some (-1 :: (rangeI 0 n).filter fun x => !decide (x ∈ ps)) := by
  unfold m_ends_outside
  simp only [rng h0 (by omega : n ≤ 1000000), Option.bind_some]
  have hl : (rangeI 0 n).length ≤ 1000000 := by rw [rng_len]; omega
  rw [lcO_pure (fun x => !decide (x ∈ ps)) id hl (fun _ _ => rfl) fun _ _ _ => rfl]
  simp only [Option.bind_some, List.map_id]
  have hc : ((rangeI 0 n).filter fun x => !decide (x ∈ ps)).length ≤ n.toNat := by
    have := List.length_filter_le (fun x => !decide (x ∈ ps)) (rangeI 0 n)
    rw [rng_len] at this
    exact this
  unfold catO
  rw [if_pos (by simp only [List.length_cons, List.length_nil]; omega)]
  rfl
/-- a row of tolls is as it should be -/
def RowOk (n p : Nat) (row : List Int) : Prop := row.length = n + 1 ∧ row.getD p 1 = 0 ∧ ∀ e, e < n + 1 → e ≠ p → 1 ≤ row.getD e 0 ∧ row.getD e 0 ≤ 1000000
instance {n p : Nat} {row : List Int} : Decidable (RowOk n p row) := by unfold RowOk; infer_instance
theorem toll_row {n p : Nat} {row : List Int} (hp : p < n) (hn : n ≤ 16) : m_is_toll_row ((n : Int), (p : Int), row) = some (decide (RowOk n p row)) := by
  unfold m_is_toll_row
  dsimp only
  by_cases hl : row.length = n + 1
  · rw [at_n 1 (by omega : p < row.length)]
    have e1 : (!decide ((row.length : Int) = (n : Int) + 1)) = false := by rw [Bool.not_eq_false', decide_eq_true_eq]; omega
    rw [e1, cond_false]
    simp only [Option.bind_some]
    by_cases h0 : row.getD p 1 = 0
    · rw [h0, decide_eq_true rfl, Bool.not_true, cond_false, ends (by omega) (by omega)]
      simp only [Option.bind_some]
      let v : Int → Int := fun x => row.getD (if x < 0 then n else x.toNat) 0
      have hv : ∀ x ∈ (-1 :: (rangeI 0 (n : Int)).filter fun x => !decide (x ∈ [(p : Int)])), atI row x = some (v x) := by
        intro x hx
        rcases List.mem_cons.mp hx with rfl | hx
        · exact at_m1 0 hl
        · rw [List.mem_filter, mem_rng] at hx
          show atI row x = some (row.getD (if x < 0 then n else x.toNat) 0)
          rw [if_neg (by omega)]
          exact at_p 0 hx.1.1 (by omega)
      rw [lcO_all (fun x => decide (1 ≤ v x) && decide (v x ≤ 1000000)) ?_ fun x hx => by simp only [hv x hx, Option.bind_some]]
      · simp only [Option.bind_some]
        congr 1
        rw [Bool.eq_iff_iff, decide_eq_true_eq, List.all_map, List.all_eq_true]
        have hn1 : v (-1) = row.getD n 0 := rfl
        have hx1 : ∀ x : Int, 0 ≤ x → v x = row.getD x.toNat 0 := fun x h => by
          show row.getD (if x < 0 then n else x.toNat) 0 = _
          rw [if_neg (by omega)]
        constructor
        · intro h
          refine ⟨hl, h0, fun e he hne => ?_⟩
          by_cases hen : e = n
          · have := h (-1) List.mem_cons_self
            simp only [Function.comp_apply, id, hn1, Bool.and_eq_true, decide_eq_true_eq] at this
            rw [hen]; exact this
          · have := h (e : Int) (List.mem_cons_of_mem _ (List.mem_filter.mpr ⟨mem_rng.mpr ⟨by omega, by omega⟩, by simp; omega⟩))
            simp only [Function.comp_apply, id, hx1 (e : Int) (by omega), Int.toNat_natCast, Bool.and_eq_true, decide_eq_true_eq] at this
            exact this
        · rintro ⟨_, _, h⟩ x hx
          simp only [Function.comp_apply, id, Bool.and_eq_true, decide_eq_true_eq]
          rcases List.mem_cons.mp hx with rfl | hx
          · rw [hn1]; exact h n (by omega) (by omega)
          · rw [List.mem_filter, mem_rng] at hx
            have hne : x ≠ (p : Int) := by simpa using hx.2
            rw [hx1 x hx.1.1]
            exact h x.toNat (by omega) (by omega)
      · have := List.length_filter_le (fun x => !decide (x ∈ [(p : Int)])) (rangeI 0 (n : Int))
        rw [rng_len] at this
        simp only [List.length_cons]
        omega
    · have e2 : decide (row.getD p 1 = 0) = false := decide_eq_false h0
      rw [e2, Bool.not_false, cond_true, decide_eq_false]
      exact fun h => h0 h.2.1
  · have e1 : (!decide ((row.length : Int) = (n : Int) + 1)) = true := by rw [Bool.not_eq_true', decide_eq_false_iff_not]; omega
    rw [e1, cond_true]
    simp only [Option.bind_some, cond_true]
    rw [decide_eq_false]
    exact fun h => hl h.1
end M

/-! M3 -/
set_option Elab.async false
set_option linter.all false
set_option maxRecDepth 100000
set_option maxHeartbeats 1000000
namespace M
open PySem Dl G
open L2 (atI ixN)
theorem enum_map {α : Type} (d : α) (xs : List α) : enumL xs = (List.range xs.length).map fun (p : Nat) => ((p : Int), xs.getD p d) := by
  apply List.ext_getElem?
  intro i
  rw [enumL, enumF_get, List.getElem?_map]
  by_cases h : i < xs.length
  · rw [List.getElem?_eq_getElem h, List.getElem?_range h]
    simp only [Option.map_some, Nat.zero_add, List.getD_eq_getElem?_getD, List.getElem?_eq_getElem h, Option.getD_some]
  · rw [List.getElem?_eq_none (by omega), List.getElem?_eq_none (by rw [List.length_range]; omega)]
    rfl
def badRow (t : List (List Int)) (p : Nat) : Bool := !decide (RowOk t.length p (t.getD p []))
/-- the first wrong row, -1 for a wrong number of rows, -2 if there is none -/
def wrongRow (t : List (List Int)) : Int := if t.length = 0 ∨ 16 < t.length then -1 else match (List.range t.length).find? (badRow t) with
  | some p => (p : Int)
  | none => -2
theorem check_tolls (t : List (List Int)) : m_check_tolls t = some (if wrongRow t = -2 then .ok () else .error (.one "BadTolls" "place" (wrongRow t))) := by
  unfold m_check_tolls
  by_cases h : t.length = 0 ∨ 16 < t.length
  · have e : (!(decide ((1 : Int) ≤ (t.length : Int)) && decide ((t.length : Int) ≤ (16 : Int)))) = true := by
      rw [Bool.not_eq_true', Bool.and_eq_false_iff, decide_eq_false_iff_not, decide_eq_false_iff_not]; omega
    rw [e, cond_true]
    unfold wrongRow
    rw [if_pos h]
    rfl
  · have e : (!(decide ((1 : Int) ≤ (t.length : Int)) && decide ((t.length : Int) ≤ (16 : Int)))) = false := by
      rw [Bool.not_eq_false', Bool.and_eq_true, decide_eq_true_eq, decide_eq_true_eq]; omega
    rw [e, cond_false, enum_map [] t]
    rw [for_find (fun x : Int × List Int => !decide (RowOk t.length x.1.toNat x.2)) (fun x => .error (.one "BadTolls" "place" x.1))]
    · rw [List.find?_map]
      unfold wrongRow
      rw [if_neg h]
      have eb : ((fun x : Int × List Int => !decide (RowOk t.length x.1.toNat x.2)) ∘ fun p : Nat => ((p : Int), t.getD p [])) = badRow t := rfl
      rw [eb]
      cases hf : (List.range t.length).find? (badRow t) with
      | none => rfl
      | some p =>
        have hp : ¬ ((p : Int) = -2) := by omega
        show _ = some (if (p : Int) = -2 then _ else _)
        rw [if_neg hp]
        rfl
    · intro x hx
      obtain ⟨p, hp, rfl⟩ := List.mem_map.mp hx
      rw [List.mem_range] at hp
      simp only [toll_row hp (by omega : t.length ≤ 16), Option.bind_some, Int.toNat_natCast]
      generalize decide (RowOk t.length p (t.getD p [])) = b
      cases b <;> rfl
theorem wrong_row (t : List (List Int)) : m__law_wrong_row t = some (wrongRow t) := by
  unfold m__law_wrong_row
  by_cases h : t.length = 0 ∨ 16 < t.length
  · have e : ((decide ((t.length : Int) = (0 : Int))) || (decide ((16 : Int) < (t.length : Int)))) = true := by
      rw [Bool.or_eq_true, decide_eq_true_eq, decide_eq_true_eq]; omega
    rw [e, cond_true]
    unfold wrongRow
    rw [if_pos h]
  · have e : ((decide ((t.length : Int) = (0 : Int))) || (decide ((16 : Int) < (t.length : Int)))) = false := by
      rw [Bool.or_eq_false_iff, decide_eq_false_iff_not, decide_eq_false_iff_not]; omega
    rw [e, cond_false, rng (by omega) (by omega)]
    simp only [Option.bind_some, rng_nat]
    rw [for_find (fun x : Int => badRow t x.toNat) (fun x => x)]
    · rw [List.find?_map]
      unfold wrongRow
      rw [if_neg h]
      have eb : ((fun x : Int => badRow t x.toNat) ∘ fun k : Nat => (k : Int)) = badRow t := rfl
      rw [eb]
      cases hf : (List.range t.length).find? (badRow t) with
      | none => rfl
      | some p => rfl
    · intro x hx
      obtain ⟨p, hp, rfl⟩ := List.mem_map.mp hx
      rw [List.mem_range] at hp
      rw [at_n [] hp, Int.toNat_natCast]
      simp only [Option.bind_some]
      unfold badRow
      generalize t.getD p [] = row
      by_cases hl : row.length = t.length + 1
      · have e1 : (!decide ((row.length : Int) = (t.length : Int) + 1)) = false := by rw [Bool.not_eq_false', decide_eq_true_eq]; omega
        rw [e1, cond_false, at_n 1 (by omega : p < row.length)]
        simp only [Option.bind_some]
        by_cases h0 : row.getD p 1 = 0
        · rw [h0, decide_eq_true rfl, Bool.not_true, cond_false, rng (by omega) (by omega)]
          simp only [Option.bind_some]
          rw [for_find (fun y : Int => decide (y ≠ (p : Int)) && !(decide ((1 : Int) ≤ row.getD y.toNat 0) && decide (row.getD y.toNat 0 ≤ (1000000 : Int)))) (fun _ => (p : Int))]
          · by_cases hr : RowOk t.length p row
            · have hf : (rangeI 0 ((t.length : Int) + 1)).find? (fun y : Int => decide (y ≠ (p : Int)) && !(decide ((1 : Int) ≤ row.getD y.toNat 0) && decide (row.getD y.toNat 0 ≤ (1000000 : Int)))) = none := by
                rw [List.find?_eq_none]
                intro y hy
                rw [mem_rng] at hy
                by_cases hyp : y = p
                · simp [hyp]
                · have := hr.2.2 y.toNat (by omega) (by omega)
                  simp only [Bool.and_eq_true, decide_eq_true_eq, Bool.not_eq_true', Bool.and_eq_false_iff, decide_eq_false_iff_not]
                  omega
              rw [hf, decide_eq_true hr]
              rfl
            · cases hf : (rangeI 0 ((t.length : Int) + 1)).find? (fun y : Int => decide (y ≠ (p : Int)) && !(decide ((1 : Int) ≤ row.getD y.toNat 0) && decide (row.getD y.toNat 0 ≤ (1000000 : Int)))) with
              | none =>
                exfalso
                rw [List.find?_eq_none] at hf
                refine hr ⟨hl, h0, fun e he hne => ?_⟩
                have := hf (e : Int) (mem_rng.mpr ⟨by omega, by omega⟩)
                simp only [Bool.and_eq_true, decide_eq_true_eq, Bool.not_eq_true', Bool.and_eq_false_iff, decide_eq_false_iff_not, Int.toNat_natCast] at this
                omega
              | some y =>
                rw [decide_eq_false hr]
                rfl
          · intro y hy
            rw [mem_rng] at hy
            by_cases hyp : y = p
            · subst hyp
              simp
            · have e3 : (!decide (y = (p : Int))) = true := by rw [Bool.not_eq_true', decide_eq_false_iff_not]; exact hyp
              rw [e3, cond_true, at_p 0 hy.1 (by omega)]
              simp only [Option.bind_some]
              cases hb : (decide ((1 : Int) ≤ row.getD y.toNat 0) && decide (row.getD y.toNat 0 ≤ (1000000 : Int))) <;> simp [hyp]
        · have e2 : decide (row.getD p 1 = 0) = false := decide_eq_false h0
          have hr : ¬ RowOk t.length p row := fun h => h0 h.2.1
          rw [e2, decide_eq_false hr]
          rfl
      · have e1 : (!decide ((row.length : Int) = (t.length : Int) + 1)) = true := by rw [Bool.not_eq_true', decide_eq_false_iff_not]; omega
        have hr : ¬ RowOk t.length p row := fun h => hl h.1
        rw [e1, decide_eq_false hr]
        rfl
end M

/-! M4 -/
set_option Elab.async false
set_option linter.all false
set_option maxRecDepth 100000
set_option maxHeartbeats 1000000
namespace M
open PySem Dl G
open L2 (atI ixN)
theorem cut_to {α : Type} {xs : List α} {i : Nat} (h : i ≤ xs.length) : cut xs none (some (i : Int)) = xs.take i := by
  unfold cut
  rw [HT.sIx_nat, HT.sIx_none, Nat.min_eq_left h]
  simp
theorem cut_from {α : Type} {xs : List α} {i : Nat} (h : i ≤ xs.length) : cut xs (some (i : Int)) none = xs.drop i := by
  unfold cut
  rw [HT.sIx_nat, HT.sIx_none, Nat.min_eq_left h]
  exact List.take_of_length_le (by rw [List.length_drop]; omega)
def badPl (n : Int) (ps : List Int) (i : Nat) : Bool := !(decide (0 ≤ ps.getD i 0) && decide (ps.getD i 0 < n)) || decide (ps.getD i 0 ∈ ps.take i)
theorem check_places {n : Int} (ps : List Int) (h0 : 1 ≤ n) (h1 : n ≤ 16) (hl : ps.length ≤ 900000) : m_check_places (n, ps) = some (match (List.range ps.length).find? (badPl n ps) with
    | some i => .error (.one "BadPlace" "place" (ps.getD i 0))
    | none => .ok (isort ps)) := by
  unfold m_check_places
  have e : (!(decide ((1 : Int) ≤ n) && decide (n ≤ (16 : Int)))) = false := by
    rw [Bool.not_eq_false', Bool.and_eq_true, decide_eq_true_eq, decide_eq_true_eq]; omega
  simp only [e, cond_false, rng (n := (ps.length : Int)) (by omega) (by omega), Option.bind_some, rng_nat]
  rw [for_find (fun x : Int => badPl n ps x.toNat) (fun x => .error (.one "BadPlace" "place" (ps.getD x.toNat 0)))]
  · rw [List.find?_map]
    have eb : ((fun x : Int => badPl n ps x.toNat) ∘ fun k : Nat => (k : Int)) = badPl n ps := rfl
    rw [eb]
    cases hf : (List.range ps.length).find? (badPl n ps) with
    | none => rfl
    | some p => rfl
  · intro x hx
    obtain ⟨p, hp, rfl⟩ := List.mem_map.mp hx
    rw [List.mem_range] at hp
    rw [at_n 0 hp, Int.toNat_natCast, cut_to (by omega)]
    simp only [Option.bind_some]
    unfold badPl
    generalize ps.getD p 0 = v
    generalize decide (v ∈ ps.take p) = b2
    cases (decide (0 ≤ v) && decide (v < n)) <;> cases b2 <;> rfl
theorem place1 {n : Int} (p : Int) (h0 : 1 ≤ n) (h1 : n ≤ 16) : m_check_places (n, [p]) = some (if 0 ≤ p ∧ p < n then .ok [p] else .error (.one "BadPlace" "place" p)) := by
  rw [check_places [p] h0 h1 (by simp)]
  show some (match (List.range 1).find? (badPl n [p]) with | some i => _ | none => _) = _
  have e : List.range 1 = [0] := rfl
  rw [e, List.find?_cons, List.find?_nil]
  have eb : badPl n [p] 0 = !(decide (0 ≤ p) && decide (p < n)) := by
    unfold badPl
    simp
  rw [eb]
  by_cases h : 0 ≤ p ∧ p < n
  · rw [if_pos h, decide_eq_true h.1, decide_eq_true h.2]
    rfl
  · rw [if_neg h]
    have : (decide (0 ≤ p) && decide (p < n)) = false := by rw [Bool.and_eq_false_iff, decide_eq_false_iff_not, decide_eq_false_iff_not]; omega
    rw [this]
    rfl
theorem place2 {n : Int} (p e : Int) (h0 : 1 ≤ n) (h1 : n ≤ 16) (hp : 0 ≤ p ∧ p < n) : ∃ ys, m_check_places (n, [p, e]) = some (if 0 ≤ e ∧ e < n ∧ e ≠ p then .ok ys else .error (.one "BadPlace" "place" e)) := by
  refine ⟨isort [p, e], ?_⟩
  rw [check_places [p, e] h0 h1 (by simp)]
  show some (match (List.range 2).find? (badPl n [p, e]) with | some i => _ | none => _) = _
  have e2 : List.range 2 = [0, 1] := rfl
  rw [e2, List.find?_cons, List.find?_cons, List.find?_nil]
  have eb : badPl n [p, e] 0 = false := by
    unfold badPl
    simp
    omega
  have eb1 : badPl n [p, e] 1 = (!(decide (0 ≤ e) && decide (e < n)) || decide (e = p)) := by
    unfold badPl
    simp
  rw [eb, eb1]
  by_cases h : 0 ≤ e ∧ e < n ∧ e ≠ p
  · rw [if_pos h, decide_eq_true h.1, decide_eq_true h.2.1, decide_eq_false h.2.2]
    rfl
  · rw [if_neg h]
    have : (!(decide (0 ≤ e) && decide (e < n)) || decide (e = p)) = true := by
      rw [Bool.or_eq_true, Bool.not_eq_true', Bool.and_eq_false_iff, decide_eq_false_iff_not, decide_eq_false_iff_not, decide_eq_true_eq]; omega
    rw [this]
    rfl
/-- a whole table of tolls -/
def TabOk (t : List (List Int)) : Prop := 1 ≤ t.length ∧ t.length ≤ 16 ∧ ∀ p, p < t.length → RowOk t.length p (t.getD p [])
theorem wrong_ok {t : List (List Int)} : wrongRow t = -2 ↔ TabOk t := by
  unfold wrongRow TabOk
  by_cases h : t.length = 0 ∨ 16 < t.length
  · rw [if_pos h]
    constructor
    · intro h; omega
    · intro h; omega
  · rw [if_neg h]
    cases hf : (List.range t.length).find? (badRow t) with
    | none =>
      rw [List.find?_eq_none] at hf
      refine ⟨fun _ => ⟨by omega, by omega, fun p hp => ?_⟩, fun _ => rfl⟩
      have := hf p (List.mem_range.mpr hp)
      unfold badRow at this
      simpa using this
    | some p =>
      have h1 := List.find?_some hf
      have h2 := List.mem_of_find?_eq_some hf
      refine ⟨fun h => ?_, fun h => ?_⟩
      · have : (p : Int) = -2 := h
        omega
      · have := h.2.2 p (List.mem_range.mp h2)
        unfold badRow at h1
        rw [decide_eq_true this] at h1
        cases h1
theorem check_ok {t : List (List Int)} (h : TabOk t) : m_check_tolls t = some (.ok ()) := by
  rw [check_tolls, if_pos (wrong_ok.mpr h)]
theorem check_bad {t : List (List Int)} (h : wrongRow t ≠ -2) : m_check_tolls t = some (.error (.one "BadTolls" "place" (wrongRow t))) := by
  rw [check_tolls, if_neg h]
theorem copy_ {t : List (List Int)} (h : t.length ≤ 1000000) : m__law_copy t = some t := by
  unfold m__law_copy
  rw [lcO_all id h fun _ _ => rfl]
  simp
end M

/-! M5 -/
set_option Elab.async false
set_option linter.all false
set_option maxRecDepth 100000
set_option maxHeartbeats 1000000
namespace M
open PySem Dl G
open L2 (atI ixN)
theorem for_nx {α τ : Type} {f : α → Unit → Option (Ctl Unit τ)} : ∀ {xs : List α}, (∀ x ∈ xs, f x () = some (.nx ())) → forL f xs () = some (.nx ())
  | [], _ => rfl
  | x :: xs, h => by
    unfold forL
    rw [h x List.mem_cons_self]
    exact for_nx fun y hy => h y (List.mem_cons_of_mem _ hy)
theorem same_row {xs : List Int} (hl : xs.length ≤ 1000000) : m__law_same_row (xs, xs) = some true := by
  unfold m__law_same_row
  simp only [decide_true, Bool.not_true, Bool.or_false, cond_false, rng (n := (xs.length : Int)) (by omega) (by omega), Option.bind_some]
  rw [for_nx]
  · rfl
  · intro x hx
    rw [mem_rng] at hx
    simp [at_p 0 hx.1 hx.2, m__law_whole]
theorem same_rows {xss : List (List Int)} (hl : xss.length ≤ 1000000) (h : ∀ xs ∈ xss, xs.length ≤ 1000000) : m__law_same_rows (xss, xss) = some true := by
  unfold m__law_same_rows
  simp only [decide_true, Bool.not_true, Bool.or_false, cond_false, rng (n := (xss.length : Int)) (by omega) (by omega), Option.bind_some]
  rw [for_nx]
  · rfl
  · intro x hx
    rw [mem_rng] at hx
    rw [at_p [] hx.1 hx.2]
    simp only [Option.bind_some]
    have hm : xss.getD x.toNat [] ∈ xss := by
      rw [List.getD_eq_getElem?_getD, List.getElem?_eq_getElem (by omega), Option.getD_some]
      exact List.getElem_mem _
    rw [same_row (h _ hm)]
    rfl
/-- the wrong end of a road -/
def roadBad (n p e : Int) : Option Int := if ¬ (0 ≤ p ∧ p < n) then some p else if e = -1 ∨ (0 ≤ e ∧ e < n ∧ e ≠ p) then none else some e
theorem check_road_bad {t : List (List Int)} {p e : Int} (h : wrongRow t ≠ -2) : m_check_road (t, p, e) = some (.error (.one "BadTolls" "place" (wrongRow t))) := by
  unfold m_check_road
  simp only [check_bad h, Option.bind_some]
theorem check_road {t : List (List Int)} {p e : Int} (h : TabOk t) : m_check_road (t, p, e) = some (match roadBad t.length p e with
    | some x => .error (.one "BadPlace" "place" x)
    | none => .ok ()) := by
  unfold m_check_road roadBad
  simp only [check_ok h, Option.bind_some, place1 (n := (t.length : Int)) p (by have := h.1; omega) (by have := h.2.1; omega)]
  by_cases hp : 0 ≤ p ∧ p < (t.length : Int)
  · rw [if_pos hp, if_neg (by omega)]
    simp only
    by_cases he : e = -1
    · rw [decide_eq_true he, if_pos (.inl he)]
      rfl
    · obtain ⟨ys, e2⟩ := place2 (n := (t.length : Int)) p e (by have := h.1; omega) (by have := h.2.1; omega) hp
      rw [decide_eq_false he, e2]
      by_cases h3 : 0 ≤ e ∧ e < (t.length : Int) ∧ e ≠ p
      · rw [if_pos h3, if_pos (.inr h3)]
        rfl
      · rw [if_neg h3, if_neg (by omega)]
        rfl
  · rw [if_neg hp, if_pos (by omega)]
theorem road_none {n p e : Int} (h : roadBad n p e = none) : 0 ≤ p ∧ p < n ∧ (e = -1 ∨ (0 ≤ e ∧ e < n ∧ e ≠ p)) := by
  unfold roadBad at h
  split at h
  · cases h
  · split at h
    · rename_i h1 h2
      exact ⟨by omega, by omega, h2⟩
    · cases h
theorem cell {row : List Int} {n : Nat} {e : Int} (hl : row.length = n + 1) (he : e = -1 ∨ (0 ≤ e ∧ e < n)) : ∃ j, ixN row.length e = some j ∧ j < row.length := by
  unfold ixN
  rcases he with rfl | he
  · rw [if_neg (by omega), if_pos (by omega)]
    exact ⟨_, rfl, by omega⟩
  · rw [if_pos he.1, if_pos (by omega)]
    exact ⟨_, rfl, by omega⟩
theorem cell_at {row : List Int} {n : Nat} {e : Int} (hl : row.length = n + 1) (he : e = -1 ∨ (0 ≤ e ∧ e < n)) : ∃ v, atI row e = some v := by
  obtain ⟨j, h1, h2⟩ := cell hl he
  unfold atI
  rw [h1]
  exact ⟨_, List.getElem?_eq_getElem h2⟩
theorem cell_set {row : List Int} {n : Nat} {e : Int} (x : Int) (hl : row.length = n + 1) (he : e = -1 ∨ (0 ≤ e ∧ e < n)) : ∃ r, setO row e x = some r ∧ r.length = row.length := by
  obtain ⟨j, h1, h2⟩ := cell hl he
  unfold setO
  rw [h1]
  exact ⟨_, rfl, List.length_set ..⟩
theorem road_told {t : List (List Int)} {p e : Int} (h : TabOk t) : ∃ r, m__law_road_told (t, p, e) = some r ∧ m__law_road_due (t, p, e) = some r ∧ (match roadBad t.length p e with | some x => r = (tg_place, x) | none => r.1 = tg_toll) := by
  have h1 := h.1
  have h2 := h.2.1
  unfold m__law_road_told m_toll_of m__law_road_due
  simp only [check_road h, Option.bind_some]
  cases hb : roadBad t.length p e with
  | some x =>
    refine ⟨(tg_place, x), rfl, ?_, rfl⟩
    unfold roadBad at hb
    split at hb
    · rename_i hp
      cases hb
      have : (!(decide ((0 : Int) ≤ p) && decide (p < (t.length : Int)))) = true := by
        rw [Bool.not_eq_true', Bool.and_eq_false_iff, decide_eq_false_iff_not, decide_eq_false_iff_not]; omega
      rw [this, cond_true]
    · rename_i hp
      split at hb
      · cases hb
      · rename_i he
        cases hb
        have e1 : (!(decide ((0 : Int) ≤ p) && decide (p < (t.length : Int)))) = false := by
          rw [Bool.not_eq_false', Bool.and_eq_true, decide_eq_true_eq, decide_eq_true_eq]; omega
        have e2 : ((decide (e = p)) || (!(decide ((-(1 : Int)) ≤ e) && decide (e < (t.length : Int))))) = true := by
          rw [Bool.or_eq_true, decide_eq_true_eq, Bool.not_eq_true', Bool.and_eq_false_iff, decide_eq_false_iff_not, decide_eq_false_iff_not]; omega
        rw [e1, cond_false, e2, cond_true]
  | none =>
    obtain ⟨p0, p1, he⟩ := road_none hb
    have hr := h.2.2 p.toNat (by omega)
    obtain ⟨v, hv⟩ := cell_at (e := e) hr.1 (by omega)
    have e1 : (!(decide ((0 : Int) ≤ p) && decide (p < (t.length : Int)))) = false := by
      rw [Bool.not_eq_false', Bool.and_eq_true, decide_eq_true_eq, decide_eq_true_eq]; omega
    have e2 : ((decide (e = p)) || (!(decide ((-(1 : Int)) ≤ e) && decide (e < (t.length : Int))))) = false := by
      rw [Bool.or_eq_false_iff, decide_eq_false_iff_not, Bool.not_eq_false', Bool.and_eq_true, decide_eq_true_eq, decide_eq_true_eq]; omega
    rw [at_p [] p0 p1, e1, cond_false, e2, cond_false]
    simp only [Option.bind_some, hv]
    exact ⟨_, rfl, rfl, rfl⟩
theorem tab_len {t : List (List Int)} (h : TabOk t) {row : List Int} (hm : row ∈ t) : row.length = t.length + 1 := by
  obtain ⟨i, hi, rfl⟩ := List.mem_iff_getElem.mp hm
  have := (h.2.2 i hi).1
  rw [List.getD_eq_getElem?_getD, List.getElem?_eq_getElem hi, Option.getD_some] at this
  exact this
theorem row_at {t : List (List Int)} {p : Int} (p0 : 0 ≤ p) (p1 : p < t.length) : rowO t p = some (p.toNat, t.getD p.toNat []) := by
  unfold rowO
  rw [ixN_pos p0 p1]
  simp only
  rw [List.getD_eq_getElem?_getD, List.getElem?_eq_getElem (by omega), Option.getD_some]
theorem number {s : List Int} {n : Int} (hs : S3 s) (h0 : 1 ≤ n) (h1 : n ≤ 16) : ∃ x s', m__law_number (s, n) = some (x, s') ∧ S3 s' := by
  obtain ⟨d, s1, e1, d1, d2, g1⟩ := draw hs (many := 6) (by decide) (by decide)
  unfold m__law_number
  simp only [e1, Option.bind_some]
  by_cases hd : 0 < d
  · obtain ⟨d', s2, e2, d3, d4, g2⟩ := draw g1 (many := n) (by omega) (by omega)
    simp only [decide_eq_true hd, cond_true, e2, Option.bind_some]
    exact ⟨_, _, rfl, g2⟩
  · obtain ⟨d', s2, e2, d3, d4, g2⟩ := draw g1 (many := 20) (by decide) (by decide)
    obtain ⟨d'', s3, e3, d5, d6, g3⟩ := draw g2 (many := 4) (by decide) (by decide)
    obtain ⟨x, hx, _⟩ := at_ (xs := [(-(1 : Int)), (-(2 : Int)), n, ((n + (1 : Int)) + d')]) (i := d'') d5 d6
    simp only [decide_eq_false hd, cond_false, e2, e3, Option.bind_some, hx]
    exact ⟨_, _, rfl, g3⟩
end M

/-! M6 -/
set_option Elab.async false
set_option linter.all false
set_option maxRecDepth 100000
set_option maxHeartbeats 1000000
namespace M
open PySem Dl G
open L2 (atI ixN)
theorem changed_told {t : List (List Int)} {p e toll : Int} (h : TabOk t) : m__law_changed_told (t, p, e, toll) = (match roadBad t.length p e with
    | some x => some (tg_place, Sum.inl x)
    | none => if 1 ≤ toll ∧ toll ≤ 1000000 then (setO (t.getD p.toNat []) e toll).bind (fun r => some (tg_table, Sum.inr (t.set p.toNat r))) else some (tg_number, Sum.inl toll)) := by
  unfold m__law_changed_told m_with_toll
  simp only [check_road h, Option.bind_some]
  cases hb : roadBad t.length p e with
  | some x => rfl
  | none =>
    obtain ⟨p0, p1, he⟩ := road_none hb
    have hr := h.2.2 p.toNat (by omega)
    obtain ⟨r, hs, _⟩ := cell_set (e := e) toll hr.1 (by omega)
    simp only
    by_cases ht : 1 ≤ toll ∧ toll ≤ 1000000
    · have e1 : (!(decide ((1 : Int) ≤ toll) && decide (toll ≤ (1000000 : Int)))) = false := by
        rw [Bool.not_eq_false', Bool.and_eq_true, decide_eq_true_eq, decide_eq_true_eq]; exact ht
      have hl : t.length ≤ 1000000 := by have := h.2.1; omega
      rw [e1, cond_false, lcO_all id hl fun _ _ => rfl]
      simp only [Option.bind_some, List.map_id, row_at p0 p1, hs]
      rw [if_pos ht]
    · have e1 : (!(decide ((1 : Int) ≤ toll) && decide (toll ≤ (1000000 : Int)))) = true := by
        rw [Bool.not_eq_true', Bool.and_eq_false_iff, decide_eq_false_iff_not, decide_eq_false_iff_not]; omega
      rw [e1, cond_true, if_neg ht]
      rfl
theorem ne_toll_place : ¬ tg_toll = tg_place := fun h => by
  have := congrArg Subtype.val h
  revert this
  decide
theorem roads_right {s : List Int} {t : List (List Int)} (hs : S3 s) (h : TabOk t) : ∃ s', m__law_roads_right (s, t) = some (true, s') := by
  have h1 := h.1
  have h2 := h.2.1
  obtain ⟨p, s1, e1, g1⟩ := number hs (n := (t.length : Int)) (by omega) (by omega)
  obtain ⟨e, s2, e2, g2⟩ := number g1 (n := (t.length : Int)) (by omega) (by omega)
  obtain ⟨d, s3, e3, d1, d2, g3⟩ := draw g2 (many := 1000000) (by decide) (by decide)
  obtain ⟨d', s4, e4, d3, d4, g4⟩ := draw g3 (many := 5) (by decide) (by decide)
  obtain ⟨toll, hx, _⟩ := at_ (xs := [(0 : Int), (1 : Int), (1000000 : Int), (1000001 : Int), ((1 : Int) + d)]) (i := d') d3 d4
  obtain ⟨r, r1, r2, r3⟩ := road_told (p := p) (e := e) h
  unfold m__law_roads_right
  simp only [e1, e2, e3, e4, hx, Option.bind_some, copy_ (t := t) (by omega), r1, r2, decide_true, Bool.not_true, cond_false, m__law_whole, Bool.not_false, Bool.and_true, changed_told h]
  cases hb : roadBad t.length p e with
  | some x =>
    rw [hb] at r3
    simp only at r3
    subst r3
    refine ⟨s4, ?_⟩
    simp [sndO, inlO]
  | none =>
    rw [hb] at r3
    simp only at r3
    obtain ⟨p0, p1, he⟩ := road_none hb
    have hr := h.2.2 p.toNat (by omega)
    obtain ⟨rr, hset, hlen⟩ := cell_set (e := e) toll hr.1 (by omega)
    simp only [r3, decide_eq_false ne_toll_place, cond_false]
    by_cases ht : 1 ≤ toll ∧ toll ≤ 1000000
    · have e5 : (!(decide ((1 : Int) ≤ toll) && decide (toll ≤ (1000000 : Int)))) = false := by
        rw [Bool.not_eq_false', Bool.and_eq_true, decide_eq_true_eq, decide_eq_true_eq]; exact ht
      have hl2 : ∀ xs ∈ t.set p.toNat rr, xs.length = t.length + 1 := by
        intro xs hm
        rcases List.mem_or_eq_of_mem_set hm with hm | rfl
        · exact tab_len h hm
        · rw [hlen]; exact hr.1
      have hsp : spoilO (t.set p.toNat rr) = some () := by
        unfold spoilO
        rw [if_pos]
        rw [List.all_eq_true]
        intro xs hm
        have := hl2 xs hm
        rw [List.length_set]
        exact decide_eq_true (by omega)
      refine ⟨s4, ?_⟩
      simp only [if_pos ht, hset, Option.bind_some, e5, cond_false, row_at p0 p1, inrO, decide_true, Bool.not_true, same_rows (xss := t.set p.toNat rr) (by rw [List.length_set]; omega) (fun xs hm => by have := hl2 xs hm; omega), Bool.or_false, hsp]
    · have e5 : (!(decide ((1 : Int) ≤ toll) && decide (toll ≤ (1000000 : Int)))) = true := by
        rw [Bool.not_eq_true', Bool.and_eq_false_iff, decide_eq_false_iff_not, decide_eq_false_iff_not]; omega
      refine ⟨s4, ?_⟩
      simp only [if_neg ht, Option.bind_some, e5, cond_true]
      simp [sndO, inlO]
end M

/-! M7 -/
set_option Elab.async false
set_option linter.all false
set_option maxRecDepth 100000
set_option maxHeartbeats 1000000
namespace M
open PySem Dl G
open L2 (atI ixN)
theorem for_inv' {α ρ τ : Type} {f : α → ρ → Option (Ctl ρ τ)} (I : Nat → ρ → Prop) : ∀ {xs : List α} (k : Nat) {r : ρ}, I k r → (∀ i x r, xs[i]? = some x → I (k + i) r → ∃ r', f x r = some (.nx r') ∧ I (k + i + 1) r') → ∃ r', forL f xs r = some (.nx r') ∧ I (k + xs.length) r'
  | [], k, r, h, _ => ⟨r, rfl, h⟩
  | x :: xs, k, r, h, st => by
    obtain ⟨r1, e1, h1⟩ := st 0 x r rfl h
    obtain ⟨r2, e2, h2⟩ := for_inv' I (xs := xs) (k + 1) (r := r1) h1 fun i y r hy hi => by
      have := st (i + 1) y r (by simpa using hy) (by rw [show k + (i + 1) = k + 1 + i by omega]; exact hi)
      rw [show k + (i + 1) + 1 = k + 1 + i + 1 by omega] at this
      exact this
    refine ⟨r2, ?_, ?_⟩
    · unfold forL
      rw [e1]
      exact e2
    · rw [List.length_cons, show k + (xs.length + 1) = k + 1 + xs.length by omega]
      exact h2
theorem for_inv {α ρ τ : Type} {f : α → ρ → Option (Ctl ρ τ)} {xs : List α} (I : Nat → ρ → Prop) {r : ρ} (h : I 0 r) (st : ∀ i x r, xs[i]? = some x → I i r → ∃ r', f x r = some (.nx r') ∧ I (i + 1) r') : ∃ r', forL f xs r = some (.nx r') ∧ I xs.length r' := by
  obtain ⟨r', e, h'⟩ := for_inv' I 0 h fun i x r hx hi => by
    rw [Nat.zero_add] at hi ⊢
    exact st i x r hx hi
  rw [Nat.zero_add] at h'
  exact ⟨r', e, h'⟩
theorem rng_get {n : Nat} {i : Nat} {x : Int} (h : (rangeI 0 (n : Int))[i]? = some x) : x = (i : Int) ∧ i < n := by
  rw [rng_nat, List.getElem?_map] at h
  by_cases hi : i < n
  · rw [List.getElem?_range hi] at h
    cases h
    exact ⟨rfl, hi⟩
  · rw [List.getElem?_eq_none (by rw [List.length_range]; omega)] at h
    cases h
theorem lc_all {α β ρ : Type} {ef : α → ρ → Option (β × ρ)} (I : ρ → Prop) (J : β → Prop) : ∀ {xs : List α} {r : ρ}, I r → (∀ x r, x ∈ xs → I r → ∃ y r', ef x r = some (y, r') ∧ J y ∧ I r') → ∃ ys r', lcM (fun _ r => some (true, r)) ef xs r = some (ys, r') ∧ ys.length = xs.length ∧ (∀ y ∈ ys, J y) ∧ I r'
  | [], r, h, _ => ⟨[], r, rfl, rfl, fun _ h => (nomatch h), h⟩
  | x :: xs, r, h, st => by
    obtain ⟨y, r1, e1, j1, h1⟩ := st x r List.mem_cons_self h
    obtain ⟨ys, r2, e2, l2, j2, h2⟩ := lc_all I J (xs := xs) h1 fun z r hz => st z r (List.mem_cons_of_mem _ hz)
    refine ⟨y :: ys, r2, ?_, by rw [List.length_cons, l2, List.length_cons], fun z hz => ?_, h2⟩
    · unfold lcM
      simp only [e1, e2]
    · rcases List.mem_cons.mp hz with rfl | hz
      · exact j1
      · exact j2 z hz
theorem lcO_st {α β ρ : Type} {ef : α → ρ → Option (β × ρ)} {xs : List α} {r : ρ} (I : ρ → Prop) (J : β → Prop) (hl : xs.length ≤ 1000000) (h : I r) (st : ∀ x r, x ∈ xs → I r → ∃ y r', ef x r = some (y, r') ∧ J y ∧ I r') : ∃ ys r', lcO (fun _ r => some (true, r)) ef xs r = some (ys, r') ∧ ys.length = xs.length ∧ (∀ y ∈ ys, J y) ∧ I r' := by
  unfold lcO
  rw [if_pos hl]
  exact lc_all I J h st
/-- the drawn table is whole -/
theorem tolls {s : List Int} {n : Nat} (hs : S3 s) (h0 : 1 ≤ n) (h1 : n ≤ 16) : ∃ t s', m__law_tolls (s, (n : Int)) = some (t, s') ∧ TabOk t ∧ t.length = n := by
  obtain ⟨d, s1, e1, d1, d2, g1⟩ := draw hs (many := 3) (by decide) (by decide)
  obtain ⟨top, hx, hx2⟩ := at_ (xs := [(3 : Int), (9 : Int), (1000000 : Int)]) (i := d) d1 d2
  have ht : 0 < top ∧ top ≤ 1000000 := by
    have := List.mem_of_getElem? hx2
    simp at this
    omega
  unfold m__law_tolls
  simp only [e1, hx, Option.bind_some, rng (n := (n : Int)) (by omega) (by omega)]
  obtain ⟨⟨s2, t⟩, e2, g2, tl, tr⟩ := for_inv (τ := Unit) (xs := rangeI 0 (n : Int)) (r := (s1, ([] : List (List Int)))) (f := fun (place17 : Int) (rr : (List Int) × (List (List Int))) => (match rr with | (state14, table15) => ((rngO (0 : Int) ((n : Int) + (1 : Int))).bind fun xs19 =>
      (lcO (fun (x_end : Int) (rr : (List Int)) => match rr with | state14 => some (true, state14)) (fun (x_end : Int) (rr : (List Int)) => match rr with | state14 => (m__law_draw (state14, top)).bind fun (r21, state23) => some (((1 : Int) + r21), state23)) xs19 state14).bind fun (ys24, state26) =>
      (setO ys24 place17 (0 : Int)).bind fun row31 =>
      (appO table15 row31).bind fun table38 =>
      some (.nx (state26, table38))) : Option (Ctl ((List Int) × (List (List Int))) Unit)))
    (fun i r => S3 r.1 ∧ r.2.length = i ∧ ∀ p, p < i → RowOk n p (r.2.getD p [])) ⟨g1, rfl, fun p hp => absurd hp (Nat.not_lt_zero _)⟩ (by
    rintro i x ⟨s, t⟩ hx ⟨g, hl, hr⟩
    obtain ⟨rfl, hi⟩ := rng_get hx
    have hll : (rangeI 0 ((n : Int) + 1)).length ≤ 1000000 := by rw [rng_len]; omega
    obtain ⟨ys, s', e3, l3, j3, g3⟩ := lcO_st (xs := rangeI 0 ((n : Int) + 1)) (r := s) (ef := fun (x_end : Int) (rr : (List Int)) => match rr with | state14 => (m__law_draw (state14, top)).bind fun (r21, state23) => some (((1 : Int) + r21), state23)) S3 (fun y => 1 ≤ y ∧ y ≤ 1000000) hll g (by
      intro x r hx g
      obtain ⟨d, s4, e4, d3, d4, g4⟩ := draw g ht.1 (by omega)
      exact ⟨1 + d, s4, by simp only [e4, Option.bind_some], by omega, g4⟩)
    have hyl : ys.length = n + 1 := by rw [l3, rng_len]; omega
    refine ⟨(s', t ++ [ys.set i 0]), ?_, g3, by simp only at hl; simp [hl], fun p hp => ?_⟩
    · simp only [rng (n := (n : Int) + 1) (by omega) (by omega), Option.bind_some]
      rw [e3]
      simp only [Option.bind_some, set_ (xs := ys) (i := (i : Int)) (0 : Int) (by omega) (by omega), Int.toNat_natCast]
      unfold appO
      simp only at hl
      rw [if_pos (by omega)]
      rfl
    · simp only at hl hr ⊢
      by_cases hpi : p < i
      · have := hr p hpi
        rw [List.getD_eq_getElem?_getD, List.getElem?_append_left (by omega), ← List.getD_eq_getElem?_getD]
        exact this
      · have hpe : p = i := by omega
        subst hpe
        rw [List.getD_eq_getElem?_getD, List.getElem?_append_right (by omega), hl, Nat.sub_self]
        show RowOk n p (ys.set p 0)
        refine ⟨by rw [List.length_set]; exact hyl, by rw [List.getD_eq_getElem?_getD, List.getElem?_set_self (by omega)]; rfl, fun e he hne => ?_⟩
        rw [List.getD_eq_getElem?_getD, List.getElem?_set_ne (fun h => hne h.symm), List.getElem?_eq_getElem (by omega), Option.getD_some]
        exact j3 _ (List.getElem_mem _))
  rw [e2]
  have tl2 : t.length = n := by
    simp only at tl
    rw [tl, rng_len]
    omega
  refine ⟨t, s2, rfl, ⟨by omega, by omega, fun p hp => ?_⟩, tl2⟩
  rw [tl2]
  exact tr p (by rw [rng_len]; omega)
end M

/-! M8 -/
set_option Elab.async false
set_option linter.all false
set_option maxRecDepth 100000
set_option maxHeartbeats 1000000
namespace M
open PySem Dl G
open L2 (atI ixN)
theorem plan_nil : m_shut_in [] = some (.error (.one "BadPlan" "place" (-1))) := rfl
theorem told_bad {t : List (List Int)} {w : Int} (h : wrongRow t ≠ -2) (hw : w ∈ rangeI 0 5) : m__law_table_told (t, w) = some (.inr (tg_tolls, wrongRow t, true, false)) := by
  have hc : w = 0 ∨ w = 1 ∨ w = 2 ∨ w = 3 ∨ w = 4 := by
    rw [mem_rng] at hw; omega
  unfold m__law_table_told
  rcases hc with rfl | rfl | rfl | rfl | rfl
  · simp only [check_bad h, Option.bind_some]
    rfl
  · simp only [m_toll_of, check_road_bad h, Option.bind_some]
    rfl
  · simp only [m_with_toll, check_road_bad h, Option.bind_some]
    rfl
  · simp only [m_plan_price, check_bad h, Option.bind_some]
    rfl
  · simp only [m_bill_holds, check_bad h, Option.bind_some]
    rfl
theorem told_ok {t : List (List Int)} {w : Int} (h : TabOk t) (hw : w ∈ rangeI 0 5) : m__law_table_told (t, w) = some (.inl [if w = 0 then tg_let else tg_refused]) := by
  have hc : w = 0 ∨ w = 1 ∨ w = 2 ∨ w = 3 ∨ w = 4 := by
    rw [mem_rng] at hw; omega
  have hb : roadBad t.length (-5) (-5) = some (-5) := by
    unfold roadBad
    rw [if_pos (by omega)]
  unfold m__law_table_told
  rcases hc with rfl | rfl | rfl | rfl | rfl
  · simp only [check_ok h, Option.bind_some]
    rfl
  · simp only [m_toll_of, check_road h, hb, Option.bind_some]
    rfl
  · simp only [m_with_toll, check_road h, hb, Option.bind_some]
    rfl
  · simp only [m_plan_price, check_ok h, plan_nil, Option.bind_some]
    rfl
  · have e := place1 (n := (t.length : Int)) (-5) (by have := h.1; omega) (by have := h.2.1; omega)
    rw [if_neg (by omega)] at e
    simp only [m_bill_holds, check_ok h, e, Option.bind_some]
    rfl
theorem rep1 {x : Int} {n : Int} (h0 : 0 ≤ n) (h1 : n ≤ 1000) : ∃ ys, repO [x] n = some ys ∧ ys.length = n.toNat := by
  unfold repO
  rw [if_pos ⟨by omega, by omega, rfl⟩]
  exact ⟨_, rfl, rep_len rfl _⟩
theorem cat1 {xs ys : List Int} (h : xs.length + ys.length ≤ 1000) : catO xs ys = some (xs ++ ys) := by
  unfold catO
  rw [if_pos (by omega)]
theorem bent_tolls {s : List Int} {t : List (List Int)} (hs : S3 s) (h : TabOk t) : ∃ r s', m__law_bent_tolls (s, t) = some (r, s') ∧ r.length ≤ 100 ∧ S3 s' := by
  have h1 := h.1
  have h2 := h.2.1
  obtain ⟨d, s1, e1, d1, d2, g1⟩ := draw hs (many := 6) (by decide) (by decide)
  unfold m__law_bent_tolls
  simp only [copy_ (t := t) (by omega), e1, Option.bind_some]
  by_cases hd : d = 0
  · obtain ⟨a, s2, e2, a1, a2, g2⟩ := draw g1 (many := 20) (by decide) (by decide)
    obtain ⟨b, s3, e3, b1, b2, g3⟩ := draw g2 (many := 3) (by decide) (by decide)
    obtain ⟨m, hm, hm2⟩ := at_ (xs := [(0 : Int), (17 : Int), ((18 : Int) + a)]) (i := b) b1 b2
    have hmm : 0 ≤ m ∧ m ≤ 40 := by
      have := List.mem_of_getElem? hm2
      simp at this
      omega
    have hl : (rangeI 0 m).length ≤ 1000000 := by rw [rng_len]; omega
    let ef : Int → List Int := fun place => (List.replicate place.toNat [(1 : Int)]).flatten ++ [0] ++ (List.replicate (m - place).toNat [(1 : Int)]).flatten
    rw [hd, decide_eq_true rfl, cond_true]
    simp only [e2, e3, hm, rng (n := m) hmm.1 (by omega), Option.bind_some]
    rw [lcO_all ef hl]
    · refine ⟨_, s3, rfl, ?_, g3⟩
      rw [List.length_map, rng_len]; omega
    · intro x hx
      rw [mem_rng] at hx
      have q1 : repO [(1 : Int)] x = some (List.replicate x.toNat [(1 : Int)]).flatten := by
        unfold repO
        rw [if_pos ⟨by omega, by omega, rfl⟩]
      have q2 : repO [(1 : Int)] (m - x) = some (List.replicate (m - x).toNat [(1 : Int)]).flatten := by
        unfold repO
        rw [if_pos ⟨by omega, by omega, rfl⟩]
      have l1 : (List.replicate x.toNat [(1 : Int)]).flatten.length = x.toNat := rep_len rfl _
      have l2 : (List.replicate (m - x).toNat [(1 : Int)]).flatten.length = (m - x).toNat := rep_len rfl _
      simp only [q1, q2, Option.bind_some]
      rw [cat1 (by rw [l1]; simp; omega)]
      simp only [Option.bind_some]
      rw [cat1 (by rw [List.length_append, l1, l2]; simp; omega)]
      rfl
  · obtain ⟨a, s2, e2, a1, a2, g2⟩ := draw g1 (many := 2) (by decide) (by decide)
    rw [decide_eq_false hd, cond_false]
    simp only [e2, rng (n := 1 + a) (by omega) (by omega), Option.bind_some]
    have hf := for_inv (τ := Unit) (xs := rangeI 0 (1 + a)) (r := (s2, t)) (f := (fun (turn50 : Int) (rr : (List Int) × (List (List Int))) => (match rr with | (state47, bent48) => ((m__law_draw (state47, (t.length : Int))).bind fun (r51, state53) =>
      (m__law_draw (state53, ((t.length : Int) + (1 : Int)))).bind fun (r57, state59) =>
      (m__law_draw (state59, (6 : Int))).bind fun (r63, state65) =>
      (rowO bent48 r51).bind fun (j69, row70) =>
      (cond (decide (r63 = (0 : Int))) ((appO row70 (1 : Int)).bind fun row84 =>
      some (state65, (bent48.set j69 row84), r57, row84)) (cond (decide (r63 = (1 : Int))) ((popO row70).bind fun (r91, row92) =>
      some (state65, (bent48.set j69 row92), r57, row92)) (cond (decide (r57 < (row70.length : Int))) ((cond (decide (r63 = (2 : Int))) (some r51) (some r57)).bind fun x_end100 =>
      (m__law_draw (state65, (8 : Int))).bind fun (r106, state108) =>
      (atI [(0 : Int), (1000001 : Int), (-(1 : Int)), (0 : Int), (1000001 : Int), (1 : Int), (1000000 : Int), (2000000 : Int)] r106).bind fun t109 =>
      (setO row70 x_end100 t109).bind fun row111 =>
      some (state108, (bent48.set j69 row111), x_end100, row111)) (some (state65, bent48, r57, row70))))).bind fun (state80, bent81, x_end82, row83) =>
      some (.nx (state80, bent81))) : Option (Ctl ((List Int) × (List (List Int))) Unit))))
      (fun i r => S3 r.1 ∧ r.2.length = t.length ∧ ∀ p, p < t.length → t.length + 1 ≤ (r.2.getD p []).length + i ∧ (r.2.getD p []).length ≤ t.length + 1 + i) ⟨g2, rfl, fun p hp => by have := (h.2.2 p hp).1; simp only; omega⟩ (by
      rintro i x ⟨s, bt⟩ hx ⟨g, hl, hr⟩
      have hi2 : i < 2 := by
        have hil := (List.getElem?_eq_some_iff.mp hx).1
        rw [rng_len] at hil
        omega
      simp only at hl hr
      obtain ⟨p, s3, e3, p0, p1, g3⟩ := draw g (many := (t.length : Int)) (by omega) (by omega)
      obtain ⟨e, s4, e4, q0, q1, g4⟩ := draw g3 (many := (t.length : Int) + 1) (by omega) (by omega)
      obtain ⟨k, s5, e5, k0, k1, g5⟩ := draw g4 (many := 6) (by decide) (by decide)
      have hrow := hr p.toNat (by omega)
      have fin : ∀ (s' : List Int) (row' : List Int), S3 s' → t.length + 1 ≤ row'.length + (i + 1) → row'.length ≤ t.length + 1 + (i + 1) → S3 s' ∧ (bt.set p.toNat row').length = t.length ∧ ∀ q, q < t.length → t.length + 1 ≤ ((bt.set p.toNat row').getD q []).length + (i + 1) ∧ ((bt.set p.toNat row').getD q []).length ≤ t.length + 1 + (i + 1) := by
        intro s' row' g' l1 l2
        refine ⟨g', by rw [List.length_set]; exact hl, fun q hq => ?_⟩
        by_cases hqp : q = p.toNat
        · subst hqp
          rw [List.getD_eq_getElem?_getD, List.getElem?_set_self (by omega), Option.getD_some]
          exact ⟨l1, l2⟩
        · rw [List.getD_eq_getElem?_getD, List.getElem?_set_ne (fun h => hqp h.symm), ← List.getD_eq_getElem?_getD]
          have := hr q hq
          omega
      simp only [e3, e4, e5, row_at (t := bt) p0 (by omega), Option.bind_some]
      generalize hrw : bt.getD p.toNat [] = row at hrow
      by_cases hk0 : k = 0
      · rw [hk0, decide_eq_true rfl, cond_true]
        unfold appO
        rw [if_pos (by omega)]
        exact ⟨_, rfl, fin _ _ g5 (by simp; omega) (by simp; omega)⟩
      · rw [decide_eq_false hk0, cond_false]
        by_cases hk1 : k = 1
        · rw [hk1, decide_eq_true rfl, cond_true]
          unfold popO
          rw [List.getElem?_eq_getElem (by omega)]
          exact ⟨_, rfl, fin _ _ g5 (by simp; omega) (by simp; omega)⟩
        · rw [decide_eq_false hk1, cond_false]
          by_cases he : e < (row.length : Int)
          · rw [decide_eq_true he, cond_true]
            obtain ⟨v, s6, e6, v0, v1, g6⟩ := draw g5 (many := 8) (by decide) (by decide)
            obtain ⟨y, hy, _⟩ := at_ (xs := [(0 : Int), (1000001 : Int), (-(1 : Int)), (0 : Int), (1000001 : Int), (1 : Int), (1000000 : Int), (2000000 : Int)]) (i := v) v0 v1
            by_cases hk2 : k = 2
            · rw [hk2, decide_eq_true rfl, cond_true]
              simp only [e6, hy, Option.bind_some, set_ (xs := row) y p0 (by omega)]
              exact ⟨_, rfl, fin _ _ g6 (by rw [List.length_set]; omega) (by rw [List.length_set]; omega)⟩
            · rw [decide_eq_false hk2, cond_false]
              simp only [e6, hy, Option.bind_some, set_ (xs := row) y q0 (by omega)]
              exact ⟨_, rfl, fin _ _ g6 (by rw [List.length_set]; omega) (by rw [List.length_set]; omega)⟩
          · rw [decide_eq_false he, cond_false]
            refine ⟨_, rfl, g5, hl, fun q hq => ?_⟩
            have := hr q hq
            simp only
            omega)
    obtain ⟨⟨s3, r⟩, e3, g3, l3, _⟩ := hf
    rw [e3]
    exact ⟨r, s3, rfl, by simp only at l3; omega, g3⟩
theorem wrong_cases (r : List (List Int)) : wrongRow r = -2 ∨ (wrongRow r = -1 ∨ 0 ≤ wrongRow r) := by
  unfold wrongRow
  by_cases h : r.length = 0 ∨ 16 < r.length
  · rw [if_pos h]; exact .inr (.inl rfl)
  · rw [if_neg h]
    cases (List.range r.length).find? (badRow r) with
    | none => exact .inl rfl
    | some p => exact .inr (.inr (Int.natCast_nonneg p))
theorem tables_right {s : List Int} {t : List (List Int)} (hs : S3 s) (h : TabOk t) : ∃ s', m__law_tables_right (s, t) = some (true, s') := by
  obtain ⟨r, s1, e1, l1, g1⟩ := bent_tolls hs h
  have e0 := told_ok (w := 0) h (by decide)
  rw [if_pos rfl] at e0
  refine ⟨s1, ?_⟩
  unfold m__law_tables_right
  simp only [e1, copy_ (t := r) (by omega), wrong_row, rng (n := 5) (by decide) (by decide), Option.bind_some, decide_true, cond_true, copy_ (t := t) (by have := h.2.1; omega), e0, inlO]
  rw [for_nx]
  · rfl
  · intro w hw
    by_cases hb : wrongRow r = -2
    · rw [told_ok (wrong_ok.mp hb) hw]
      rw [mem_rng] at hw
      by_cases hw0 : w = 0
      · subst hw0
        simp [hb, inlO]
      · have hw1 : 0 < w := by omega
        simp [hb, inlO, hw0, hw1]
    · rw [told_bad hb hw]
      have h2 := (wrong_cases r).resolve_left hb
      have h3 : -2 < wrongRow r := by omega
      simp [hb, inrO, h3, m__law_whole]
end M

/-! M9 -/
set_option Elab.async false
set_option linter.all false
set_option maxRecDepth 100000
set_option maxHeartbeats 1000000
namespace M
open PySem Dl G
open L2 (atI ixN)
/-- one move -/
def mv (pl : List Int) (x : Int) : Int := if x < 0 then x else pl.getD x.toNat 0
def it (pl : List Int) : Nat → Int → Int
  | 0, x => x
  | k + 1, x => it pl k (mv pl x)
def Stop (pl : List Int) (x : Int) : Prop := x < 0 ∨ pl.getD x.toNat 0 = x
instance {pl : List Int} {x : Int} : Decidable (Stop pl x) := by unfold Stop; infer_instance
def Vp (pl : List Int) : Prop := ∀ p, p < pl.length → -1 ≤ pl.getD p 0 ∧ pl.getD p 0 < pl.length
def Vx (pl : List Int) (x : Int) : Prop := -1 ≤ x ∧ x < pl.length
theorem mv_ok {pl : List Int} {x : Int} (v : Vp pl) (h : Vx pl x) : Vx pl (mv pl x) := by
  unfold mv
  split
  · exact h
  · exact v x.toNat (by unfold Vx at h; omega)
theorem it_ok {pl : List Int} (v : Vp pl) : ∀ (k : Nat) {x : Int}, Vx pl x → Vx pl (it pl k x)
  | 0, _, h => h
  | k + 1, _, h => it_ok v k (mv_ok v h)
theorem mv_stop {pl : List Int} {x : Int} (h : Stop pl x) : mv pl x = x := by
  unfold mv
  split
  · rfl
  · rcases h with h | h
    · omega
    · exact h
theorem it_stop {pl : List Int} : ∀ (k : Nat) {x : Int}, Stop pl x → it pl k x = x
  | 0, _, _ => rfl
  | k + 1, x, h => by
    show it pl k (mv pl x) = x
    rw [mv_stop h]
    exact it_stop k h
theorem for_len {α ρ τ : Type} {f : α → ρ → Option (Ctl ρ τ)} (g : ρ → ρ) (P : ρ → Prop) (hP : ∀ r, P r → P (g r)) (hf : ∀ x r, P r → f x r = some (.nx (g r))) : ∀ {xs : List α} {r : ρ}, P r → forL f xs r = some (.nx (Nat.repeat g xs.length r))
  | [], _, _ => rfl
  | x :: xs, r, h => by
    unfold forL
    rw [hf x r h]
    have e := for_len g P hP hf (xs := xs) (hP r h)
    simp only
    rw [e]
    have : ∀ (n : Nat) (r : ρ), Nat.repeat g n (g r) = Nat.repeat g (n + 1) r := fun n r => by
      induction n with
      | zero => rfl
      | succ n ih => show g (Nat.repeat g n (g r)) = _; rw [ih]; rfl
    rw [this]
    rfl
theorem rep_it (pl : List Int) : ∀ (n : Nat) (x : Int), Nat.repeat (mv pl) n x = it pl n x
  | 0, _ => rfl
  | n + 1, x => by
    have : ∀ (n : Nat) (r : Int), Nat.repeat (mv pl) n (mv pl r) = Nat.repeat (mv pl) (n + 1) r := fun n r => by
      induction n with
      | zero => rfl
      | succ n ih => show mv pl (Nat.repeat (mv pl) n (mv pl r)) = _; rw [ih]; rfl
    rw [← this, rep_it pl n]
    rfl
def eS (pl : List Int) (x : Int) : Int := it pl pl.length x
theorem end_of {pl : List Int} {x : Int} (v : Vp pl) (h : Vx pl x) : m_end_of (pl, x) = some (if Stop pl (eS pl x) then some (eS pl x) else none) := by
  unfold m_end_of
  dsimp only
  rw [for_len (mv pl) (Vx pl) (fun r h => mv_ok v h) ?_ h]
  · rw [rep_it]
    show _ = some (if Stop pl (it pl pl.length x) then some (it pl pl.length x) else none)
    have hv := it_ok v pl.length h
    generalize it pl pl.length x = y at hv
    unfold Vx at hv
    by_cases hy : y = -1
    · subst hy
      rw [if_pos (.inl (by decide))]
      rfl
    · have e1 : (!decide (y = (-1 : Int))) = true := by rw [Bool.not_eq_true', decide_eq_false_iff_not]; exact hy
      unfold finK
      simp only [e1, cond_true, at_p 0 (by omega : 0 ≤ y) hv.2, Option.bind_some]
      by_cases hs : pl.getD y.toNat 0 = y
      · rw [if_pos (.inr hs), hs, decide_eq_true rfl]
        rfl
      · rw [if_neg (fun z => z.elim (fun z => by omega) hs), decide_eq_false hs]
        rfl
  · intro _ r hr
    unfold Vx at hr
    by_cases hy : r = -1
    · subst hy
      rfl
    · have e1 : (!decide (r = (-1 : Int))) = true := by rw [Bool.not_eq_true', decide_eq_false_iff_not]; exact hy
      simp only [e1, cond_true, at_p 0 (by omega : 0 ≤ r) hr.2, Option.bind_some]
      unfold mv
      rw [if_neg (by omega)]
theorem law_for {pl : List Int} (v : Vp pl) : ∀ {xs : List Int} {x : Int} (k : Nat), xs.length = k + 1 → Vx pl x → forL (fun (turn8 : Int) (stand6 : Int) => ((cond (decide (stand6 < (0 : Int))) (some true) ((atI pl stand6).bind fun t9 => some (decide (t9 = stand6)))).bind fun b11 =>
    cond b11 (some (.rt stand6)) ((atI pl stand6).bind fun t15 => some (.nx t15)) : Option (Ctl Int Int))) xs x = some (if Stop pl (it pl k x) then .rt (it pl k x) else .nx (it pl (k + 1) x))
  | [], _, _, h, _ => by simp at h
  | y :: xs, x, k, hl, h => by
    unfold Vx at h
    have hb : (cond (decide (x < (0 : Int))) (some true) ((atI pl x).bind fun t9 => some (decide (t9 = x)))) = some (decide (Stop pl x)) := by
      by_cases hx : x < 0
      · rw [decide_eq_true hx, decide_eq_true (.inl hx)]
        rfl
      · rw [decide_eq_false hx, cond_false, at_p 0 (by omega) h.2]
        simp only [Option.bind_some]
        congr 1
        rw [decide_eq_decide]
        unfold Stop
        exact ⟨.inr, fun z => z.resolve_left hx⟩
    unfold forL
    simp only [hb, Option.bind_some]
    by_cases hs : Stop pl x
    · rw [decide_eq_true hs, it_stop k hs, if_pos hs]
      rfl
    · have hx : ¬ x < 0 := fun z => hs (.inl z)
      have em : mv pl x = pl.getD x.toNat 0 := by unfold mv; rw [if_neg hx]
      rw [decide_eq_false hs, cond_false, at_p 0 (by omega) h.2, ← em]
      simp only [Option.bind_some]
      cases k with
      | zero =>
        have : xs = [] := List.length_eq_zero_iff.mp (by simpa using hl)
        subst this
        show forL _ [] (mv pl x) = some (if Stop pl x then _ else _)
        rw [if_neg hs]
        rfl
      | succ k => exact law_for v k (by simpa using hl) (mv_ok v h)
theorem law_end {pl : List Int} {x : Int} (hl : pl.length ≤ 1000) (v : Vp pl) (h : Vx pl x) : m__law_end (pl, x) = some (if Stop pl (eS pl x) then eS pl x else -2) := by
  unfold m__law_end
  simp only [rng (n := (pl.length : Int) + 1) (by omega) (by omega), Option.bind_some]
  rw [law_for v pl.length (by rw [rng_len]; omega) h]
  show _ = some (if Stop pl (it pl pl.length x) then it pl pl.length x else -2)
  by_cases hs : Stop pl (it pl pl.length x)
  · rw [if_pos hs, if_pos hs]
    rfl
  · rw [if_neg hs, if_neg hs]
    rfl
end M

/-! M10 -/
set_option Elab.async false
set_option linter.all false
set_option maxRecDepth 100000
set_option maxHeartbeats 1000000
namespace M
open PySem Dl G
open L2 (atI ixN)
def badEnd (pl : List Int) (p : Nat) : Bool := !decide (Stop pl (eS pl (p : Int)))
def badEnt (pl : List Int) (p : Nat) : Bool := !(decide ((-1 : Int) ≤ pl.getD p 0) && decide (pl.getD p 0 < pl.length))
/-- the first wrong place of a plan, -1 for a wrong number of places, -2 if there is none -/
def wrongPlan (pl : List Int) : Int := if pl.length = 0 ∨ 16 < pl.length then -1 else match (List.range pl.length).find? (badEnt pl) with
  | some p => (p : Int)
  | none => match (List.range pl.length).find? (badEnd pl) with
    | some p => (p : Int)
    | none => -2
theorem vp_of {pl : List Int} (h : (List.range pl.length).find? (badEnt pl) = none) : Vp pl := by
  rw [List.find?_eq_none] at h
  intro p hp
  have := h p (List.mem_range.mpr hp)
  unfold badEnt at this
  simp only [Bool.not_eq_true', Bool.not_eq_false, Bool.and_eq_true, decide_eq_true_eq] at this
  simpa using this
theorem wrong_in_plan (pl : List Int) : m__law_wrong_in_plan pl = some (wrongPlan pl) := by
  unfold m__law_wrong_in_plan wrongPlan
  by_cases h : pl.length = 0 ∨ 16 < pl.length
  · have e : ((decide ((pl.length : Int) = (0 : Int))) || (decide ((16 : Int) < (pl.length : Int)))) = true := by
      rw [Bool.or_eq_true, decide_eq_true_eq, decide_eq_true_eq]; omega
    rw [e, cond_true, if_pos h]
  · have e : ((decide ((pl.length : Int) = (0 : Int))) || (decide ((16 : Int) < (pl.length : Int)))) = false := by
      rw [Bool.or_eq_false_iff, decide_eq_false_iff_not, decide_eq_false_iff_not]; omega
    rw [e, cond_false, if_neg h]
    simp only [rng (n := (pl.length : Int)) (by omega) (by omega), Option.bind_some, rng_nat]
    have ho := for_find (xs := (List.range pl.length).map fun (k : Nat) => (k : Int)) (f := (fun (place9 : Int) (_ : Unit) => ((atI pl place9).bind fun t10 =>
        cond (!(decide ((-(1 : Int)) ≤ t10) && decide (t10 < (pl.length : Int)))) (some (.rt place9)) (some (.nx ())) : Option (Ctl Unit Int)))) (fun x : Int => badEnt pl x.toNat) (fun x => x) (by
      intro x hx
      obtain ⟨p, hp, rfl⟩ := List.mem_map.mp hx
      rw [List.mem_range] at hp
      rw [at_n 0 hp, Int.toNat_natCast]
      show cond (badEnt pl p) _ _ = some (if badEnt pl p = true then _ else _)
      cases badEnt pl p <;> rfl)
    rw [ho, List.find?_map]
    have eb : ((fun x : Int => badEnt pl x.toNat) ∘ fun k : Nat => (k : Int)) = badEnt pl := rfl
    rw [eb]
    cases hf : (List.range pl.length).find? (badEnt pl) with
    | some p => rfl
    | none =>
      have v := vp_of hf
      simp only [Option.map_none, finK]
      rw [for_find (fun x : Int => badEnd pl x.toNat) (fun x => x)]
      · rw [List.find?_map]
        have eb2 : ((fun x : Int => badEnd pl x.toNat) ∘ fun k : Nat => (k : Int)) = badEnd pl := rfl
        rw [eb2]
        cases hf2 : (List.range pl.length).find? (badEnd pl) with
        | some p => rfl
        | none => rfl
      · intro x hx
        obtain ⟨p, hp, rfl⟩ := List.mem_map.mp hx
        rw [List.mem_range] at hp
        have hvx : Vx pl (p : Int) := ⟨by omega, by omega⟩
        have hv2 := it_ok v pl.length hvx
        simp only [law_end (by omega) v hvx, Option.bind_some, Int.toNat_natCast]
        unfold badEnd
        by_cases hs : Stop pl (eS pl (p : Int))
        · have : ¬ eS pl (p : Int) = -2 := by
            unfold eS
            unfold Vx at hv2
            omega
          simp [hs, this]
        · simp [hs]
theorem memD_t {α : Type} [DecidableEq α] {x : α} {xs : List α} (h : x ∈ xs) : memD x xs = true := decide_eq_true h
theorem memD_f {α : Type} [DecidableEq α] {x : α} {xs : List α} (h : ¬ x ∈ xs) : memD x xs = false := decide_eq_false h
theorem idx_find {α β : Type} [DecidableEq β] (g : α → β) (y : β) : ∀ (L : List α), idxG y (L.map g) = L.findIdx? (fun x => decide (g x = y))
  | [] => rfl
  | x :: L => by
    rw [List.map_cons, List.findIdx?_cons]
    unfold idxG
    by_cases h : g x = y
    · rw [if_pos h, decide_eq_true h, if_pos rfl]
    · rw [if_neg h, decide_eq_false h, if_neg Bool.false_ne_true, idx_find g y L]
theorem range_find (p : Nat → Bool) (n : Nat) : (List.range n).findIdx? p = (List.range n).find? p := by
  have : ∀ (m k : Nat), ((List.range' k m).findIdx? p).map (· + k) = (List.range' k m).find? p := by
    intro m
    induction m with
    | zero => intro k; rfl
    | succ m ih =>
      intro k
      rw [List.range'_succ, List.findIdx?_cons, List.find?_cons]
      cases hp : p k with
      | true => simp
      | false =>
        simp only [Bool.false_eq_true, if_false]
        rw [← ih (k + 1), Option.map_map]
        congr 1
        funext i
        simp only [Function.comp_apply]
        omega
  have := this n 0
  rw [List.range_eq_range', ← this]
  simp
theorem allO_map {α β : Type} (g : α → Option β) (h : α → β) : ∀ {L : List α}, (∀ x ∈ L, g x = some (h x)) → allO idO (L.map g) = some (L.map h)
  | [], _ => rfl
  | x :: L, k => by
    have ih := allO_map g h (L := L) fun y hy => k y (List.mem_cons_of_mem _ hy)
    rw [List.map_cons, List.map_cons]
    unfold allO
    rw [ih, k x List.mem_cons_self]
    rfl
def endsL (pl : List Int) : List Int := (rangeI 0 (pl.length : Int)).map (eS pl)
theorem plan_ends (pl : List Int) : m_plan_ends pl = some (if wrongPlan pl = -2 then .ok (endsL pl) else .error (.one "BadPlan" "place" (wrongPlan pl))) := by
  unfold m_plan_ends wrongPlan
  by_cases h : pl.length = 0 ∨ 16 < pl.length
  · have e : (!(decide ((1 : Int) ≤ (pl.length : Int)) && decide ((pl.length : Int) ≤ (16 : Int)))) = true := by
      rw [Bool.not_eq_true', Bool.and_eq_false_iff, decide_eq_false_iff_not, decide_eq_false_iff_not]; omega
    rw [e, cond_true, if_pos h]
    rfl
  · have e : (!(decide ((1 : Int) ≤ (pl.length : Int)) && decide ((pl.length : Int) ≤ (16 : Int)))) = false := by
      rw [Bool.not_eq_false', Bool.and_eq_true, decide_eq_true_eq, decide_eq_true_eq]; omega
    rw [e, cond_false, if_neg h, enum_map 0 pl]
    rw [for_find (fun x : Int × Int => badEnt pl x.1.toNat) (fun x => .error (.one "BadPlan" "place" x.1))]
    · rw [List.find?_map]
      have eb : ((fun x : Int × Int => badEnt pl x.1.toNat) ∘ fun (p : Nat) => ((p : Int), pl.getD p 0)) = badEnt pl := rfl
      rw [eb]
      cases hf : (List.range pl.length).find? (badEnt pl) with
      | some p =>
        have hp : ¬ ((p : Int) = -2) := by omega
        show _ = some (if (p : Int) = -2 then _ else _)
        rw [if_neg hp]
        rfl
      | none =>
        have v := vp_of hf
        have hl : (rangeI 0 (pl.length : Int)).length ≤ 1000000 := by rw [rng_len]; omega
        simp only [Option.map_none, finK, rng (n := (pl.length : Int)) (by omega) (by omega), Option.bind_some]
        rw [lcO_all (fun x => if Stop pl (eS pl x) then some (eS pl x) else none) hl]
        · simp only [Option.bind_some]
          have hi : idxG none ((rangeI 0 (pl.length : Int)).map fun x => if Stop pl (eS pl x) then some (eS pl x) else none) = (List.range pl.length).find? (badEnd pl) := by
            rw [rng_nat, List.map_map, idx_find, range_find]
            congr 1
            funext p
            unfold badEnd
            simp only [Function.comp_apply]
            by_cases hs : Stop pl (eS pl (p : Int)) <;> simp [hs]
          cases hf2 : (List.range pl.length).find? (badEnd pl) with
          | some p =>
            rw [hf2] at hi
            have hm : memD none ((rangeI 0 (pl.length : Int)).map fun x => if Stop pl (eS pl x) then some (eS pl x) else none) = true := memD_t (List.mem_of_getElem? (idxG_spec hi).1)
            have hp : ¬ ((p : Int) = -2) := by omega
            unfold idxGO
            rw [hm, cond_true, hi]
            show _ = some (if (p : Int) = -2 then _ else _)
            rw [if_neg hp]
            rfl
          | none =>
            rw [List.find?_eq_none] at hf2
            have hst : ∀ x ∈ rangeI 0 (pl.length : Int), Stop pl (eS pl x) := by
              intro x hx
              rw [mem_rng] at hx
              have := hf2 x.toNat (List.mem_range.mpr (by omega))
              unfold badEnd at this
              rw [Int.toNat_of_nonneg hx.1] at this
              simpa using this
            have hm : memD none ((rangeI 0 (pl.length : Int)).map fun x => if Stop pl (eS pl x) then some (eS pl x) else none) = false := by
              refine memD_f fun hm => ?_
              obtain ⟨x, hx, hx2⟩ := List.mem_map.mp hm
              rw [if_pos (hst x hx)] at hx2
              cases hx2
            rw [hm, cond_false, allO_map _ (eS pl) fun x hx => if_pos (hst x hx)]
            rfl
        · intro x hx
          rw [mem_rng] at hx
          simp only [end_of v ⟨by omega, hx.2⟩, Option.bind_some]
    · intro x hx
      obtain ⟨p, hp, rfl⟩ := List.mem_map.mp hx
      rw [List.mem_range] at hp
      unfold badEnt m_is_end
      simp only [Option.bind_some, Int.toNat_natCast]
      have : (decide (pl.getD p 0 = (-1 : Int)) || (decide ((0 : Int) ≤ pl.getD p 0) && decide (pl.getD p 0 < (pl.length : Int)))) = (decide ((-1 : Int) ≤ pl.getD p 0) && decide (pl.getD p 0 < (pl.length : Int))) := by
        rw [Bool.eq_iff_iff]
        simp only [Bool.or_eq_true, Bool.and_eq_true, decide_eq_true_eq]
        omega
      rw [this]
      cases (decide ((-1 : Int) ≤ pl.getD p 0) && decide (pl.getD p 0 < (pl.length : Int))) <;> rfl
end M

/-! M11 -/
set_option Elab.async false
set_option linter.all false
set_option maxRecDepth 100000
set_option maxHeartbeats 1000000
namespace M
open PySem Dl G
open L2 (atI ixN)
/-- the places that do not stay -/
def shutL (pl : List Int) : List Int := (rangeI 0 (pl.length : Int)).filter fun p => !decide (pl.getD p.toNat 0 = p)
theorem shut_eq (pl : List Int) : ((enumL pl).filter fun pr : Int × Int => !decide (pr.2 = pr.1)).map (fun pr => pr.1) = shutL pl := by
  rw [enum_map 0 pl, List.filter_map, List.map_map]
  unfold shutL
  rw [rng_nat, List.filter_map]
  rfl
theorem shut_in (pl : List Int) (hl : pl.length ≤ 1000) : m_shut_in pl = some (if wrongPlan pl = -2 then .ok (shutL pl) else .error (.one "BadPlan" "place" (wrongPlan pl))) := by
  unfold m_shut_in
  rw [plan_ends]
  by_cases h : wrongPlan pl = -2
  · have he : (enumL pl).length ≤ 1000000 := by rw [enumL, enumF_len]; omega
    rw [if_pos h, if_pos h]
    simp only [Option.bind_some]
    rw [lcO_pure (fun pr : Int × Int => !decide (pr.2 = pr.1)) (fun pr => pr.1) he (fun _ _ => rfl) fun _ _ _ => rfl]
    simp only [Option.bind_some, shut_eq]
  · rw [if_neg h, if_neg h]
    rfl
theorem wrong_big {pl : List Int} : wrongPlan pl = -2 ∨ -2 < wrongPlan pl := by
  unfold wrongPlan
  split
  · exact .inr (by decide)
  · split
    · exact .inr (by omega)
    · split
      · exact .inr (by omega)
      · exact .inl rfl
theorem plan_good {pl : List Int} (h : wrongPlan pl = -2) : 1 ≤ pl.length ∧ pl.length ≤ 16 ∧ Vp pl ∧ ∀ p, p < pl.length → Stop pl (eS pl (p : Int)) := by
  unfold wrongPlan at h
  by_cases hl : pl.length = 0 ∨ 16 < pl.length
  · rw [if_pos hl] at h; omega
  · rw [if_neg hl] at h
    cases hf : (List.range pl.length).find? (badEnt pl) with
    | some p => rw [hf] at h; simp only at h; omega
    | none =>
      rw [hf] at h
      simp only at h
      cases hf2 : (List.range pl.length).find? (badEnd pl) with
      | some p => rw [hf2] at h; simp only at h; omega
      | none =>
        rw [List.find?_eq_none] at hf2
        refine ⟨by omega, by omega, vp_of hf, fun p hp => ?_⟩
        have := hf2 p (List.mem_range.mpr hp)
        unfold badEnd at this
        simpa using this
/-- the toll of the road that a place goes -/
def tollP (t : List (List Int)) (pl : List Int) (p : Int) : Int := ((atI (t.getD p.toNat []) (pl.getD p.toNat 0)).getD 0)
theorem plans_right {t : List (List Int)} {pl : List Int} (h : TabOk t) (hl : pl.length ≤ 1000) : m__law_plans_right (t, pl) = some true := by
  unfold m__law_plans_right
  simp only [wrong_in_plan, rng (n := 3) (by decide) (by decide), Option.bind_some, decide_true]
  rw [for_nx]
  · rfl
  intro w hw
  have hc : w = 0 ∨ w = 1 ∨ w = 2 := by rw [mem_rng] at hw; omega
  by_cases hb : wrongPlan pl = -2
  · obtain ⟨n1, n2, v, st⟩ := plan_good hb
    have hrl : (rangeI 0 (pl.length : Int)).length ≤ 1000000 := by rw [rng_len]; omega
    have hpe := plan_ends pl
    have hsi := shut_in pl hl
    rw [if_pos hb] at hpe hsi
    rcases hc with rfl | rfl | rfl
    · have hle : (endsL pl).length ≤ 1000000 := by unfold endsL; rw [List.length_map]; exact hrl
      have he : lcO (fun (place : Int) (rr : Unit) => match rr with | () => some (true, ())) (fun (place : Int) (rr : Unit) => match rr with | () => (m__law_end (pl, place)).bind fun r40 => some (r40, ())) (rangeI 0 (pl.length : Int)) () = some (endsL pl, ()) := by
        rw [lcO_all (eS pl) hrl]
        · rfl
        · intro x hx
          rw [mem_rng] at hx
          have hs := st x.toNat (by omega)
          rw [Int.toNat_of_nonneg hx.1] at hs
          simp only [law_end (by omega) v ⟨by omega, hx.2⟩, Option.bind_some, if_pos hs]
      simp only [m__law_plan_told, hpe, Option.bind_some, decide_true, cond_true, hb]
      simp [inrO, rng (n := (pl.length : Int)) (by omega) (by omega), he, same_row hle]
    · have hle : (shutL pl).length ≤ 1000000 := by
        have := List.length_filter_le (fun p => !decide (pl.getD p.toNat 0 = p)) (rangeI 0 (pl.length : Int))
        unfold shutL
        omega
      have he : lcO (fun (place : Int) (rr : Unit) => match rr with | () => (atI pl place).bind fun t54 => some ((!decide (t54 = place)), ())) (fun (place : Int) (rr : Unit) => match rr with | () => some (place, ())) (rangeI 0 (pl.length : Int)) () = some (shutL pl, ()) := by
        rw [lcO_pure (fun p => !decide (pl.getD p.toNat 0 = p)) id hrl ?_ fun _ _ _ => rfl]
        · rw [List.map_id]; rfl
        · intro x hx
          rw [mem_rng] at hx
          simp only [at_p 0 hx.1 hx.2, Option.bind_some]
      simp only [m__law_plan_told, hsi, Option.bind_some, decide_true, cond_true, hb]
      simp [inrO, rng (n := (pl.length : Int)) (by omega) (by omega), he, same_row hle]
    · by_cases hlen : pl.length = t.length
      · have hcell : ∀ x, 0 ≤ x → x < (pl.length : Int) → (!decide (pl.getD x.toNat 0 = x)) = true → atI t x = some (t.getD x.toNat []) ∧ atI pl x = some (pl.getD x.toNat 0) ∧ atI (t.getD x.toNat []) (pl.getD x.toNat 0) = some (tollP t pl x) := by
          intro x x0 x1 hx
          refine ⟨at_p [] x0 (by omega), at_p 0 x0 x1, ?_⟩
          have hr := h.2.2 x.toNat (by omega)
          have hv := v x.toNat (by omega)
          obtain ⟨u, hu⟩ := cell_at (e := pl.getD x.toNat 0) hr.1 (by omega)
          unfold tollP
          rw [hu]
          rfl
        have hle : (shutL pl).length ≤ 1000000 := by
          have := List.length_filter_le (fun p => !decide (pl.getD p.toNat 0 = p)) (rangeI 0 (pl.length : Int))
          unfold shutL
          omega
        have e1 : lcO (fun (place : Int) (rr : Unit) => match rr with | () => some (true, ())) (fun (place : Int) (rr : Unit) => match rr with | () => (atI t place).bind fun t11 => (atI pl place).bind fun t13 => (atI t11 t13).bind fun t15 => some (t15, ())) (shutL pl) () = some ((shutL pl).map (tollP t pl), ()) := by
          rw [lcO_all (tollP t pl) hle]
          intro x hx
          unfold shutL at hx
          rw [List.mem_filter, mem_rng] at hx
          obtain ⟨q1, q2, q3⟩ := hcell x hx.1.1 hx.1.2 hx.2
          simp only [q1, q2, q3, Option.bind_some]
        have e2 : lcO (fun (place : Int) (rr : Unit) => match rr with | () => (atI pl place).bind fun t67 => some ((!decide (t67 = place)), ())) (fun (place : Int) (rr : Unit) => match rr with | () => (atI t place).bind fun t69 => (atI pl place).bind fun t71 => (atI t69 t71).bind fun t73 => some (t73, ())) (rangeI 0 (pl.length : Int)) () = some ((shutL pl).map (tollP t pl), ()) := by
          rw [lcO_pure (fun p => !decide (pl.getD p.toNat 0 = p)) (tollP t pl) hrl]
          · rfl
          · intro x hx
            rw [mem_rng] at hx
            simp only [at_p 0 hx.1 hx.2, Option.bind_some]
          · intro x hx hx2
            rw [mem_rng] at hx
            obtain ⟨q1, q2, q3⟩ := hcell x hx.1 hx.2 hx2
            simp only [q1, q2, q3, Option.bind_some]
        have hle2 : (!decide ((pl.length : Int) = (t.length : Int))) = false := by rw [Bool.not_eq_false', decide_eq_true_eq]; omega
        have hpp : m_plan_price (t, pl) = some (.ok ((shutL pl).map (tollP t pl)).sum) := by
          unfold m_plan_price
          simp only [check_ok h, hsi, Option.bind_some]
          rw [hle2, cond_false, e1]
          rfl
        simp only [m__law_plan_told, hpp, Option.bind_some, decide_true, cond_true, hb, hle2]
        simp [inlO, rng (n := (pl.length : Int)) (by omega) (by omega), e2, m__law_whole]
      · have hle2 : (!decide ((pl.length : Int) = (t.length : Int))) = true := by rw [Bool.not_eq_true', decide_eq_false_iff_not]; omega
        have hpp : m_plan_price (t, pl) = some (.error (.one "BadSize" "size" (pl.length : Int))) := by
          unfold m_plan_price
          simp only [check_ok h, hsi, Option.bind_some]
          rw [hle2, cond_true]
        have ht : m__law_plan_told (t, pl, 2) = some (tg_size, .inl (pl.length : Int)) := by
          unfold m__law_plan_told
          simp only [hpp, Option.bind_some]
          rfl
        simp only [ht, Option.bind_some, hb, hle2]
        simp [sndO, inlO]
  · have hb2 : -2 < wrongPlan pl := wrong_big.resolve_left hb
    have hpe := plan_ends pl
    have hsi := shut_in pl hl
    rw [if_neg hb] at hpe hsi
    have hpp : m_plan_price (t, pl) = some (.error (.one "BadPlan" "place" (wrongPlan pl))) := by
      unfold m_plan_price
      simp only [check_ok h, hsi, Option.bind_some]
    have ht : m__law_plan_told (t, pl, w) = some (tg_plan, .inl (wrongPlan pl)) := by
      unfold m__law_plan_told
      rcases hc with rfl | rfl | rfl
      · simp only [hpe, Option.bind_some]; rfl
      · simp only [hsi, Option.bind_some]; rfl
      · simp only [hpp, Option.bind_some]; rfl
    simp only [ht, Option.bind_some, decide_eq_true hb2, cond_true]
    simp [sndO, inlO, m__law_whole]
end M

/-! M12 -/
set_option Elab.async false
set_option linter.all false
set_option maxRecDepth 100000
set_option maxHeartbeats 1000000
namespace M
open PySem Dl G
open L2 (atI ixN)
theorem pop_at {xs : List Int} {i : Int} (h0 : 0 ≤ i) (h1 : i < xs.length) (hl : xs.length < 1000000) : ∃ y, popAtO xs i = some (y, xs.eraseIdx i.toNat) ∧ xs[i.toNat]? = some y := by
  unfold popAtO
  rw [if_pos hl, ixN_pos h0 h1]
  simp only
  rw [List.getElem?_eq_getElem (by omega)]
  exact ⟨_, rfl, rfl⟩
theorem erase_perm : ∀ {xs : List Int} {i : Nat} {y : Int}, xs[i]? = some y → (y :: xs.eraseIdx i).Perm xs
  | [], _, _, h => by simp at h
  | x :: xs, 0, y, h => by simp at h; subst h; exact .refl _
  | x :: xs, i + 1, y, h => by
    rw [List.eraseIdx_cons_succ]
    exact (List.Perm.swap x y _).trans ((erase_perm (by simpa using h)).cons x)
theorem order {s : List Int} {ps : List Int} (hs : S3 s) (hl : ps.length ≤ 1000) : ∃ os s', m__law_order (s, ps) = some (os, s') ∧ os.Perm ps ∧ S3 s' := by
  unfold m__law_order
  simp only [rng (n := (ps.length : Int)) (by omega) (by omega), Option.bind_some]
  have hf := for_inv (τ := Unit) (xs := rangeI 0 (ps.length : Int)) (r := (s, ps, ([] : List Int))) (f := fun (turn13 : Int) (rr : (List Int) × (List Int) × (List Int)) => (match rr with | (state9, left10, x_order11) => ((m__law_draw (state9, (left10.length : Int))).bind fun (r17, state19) =>
      (popAtO left10 r17).bind fun (r14, left15) =>
      (appO x_order11 r14).bind fun x_order20 =>
      some (.nx (state19, left15, x_order20))) : Option (Ctl ((List Int) × (List Int) × (List Int)) Unit)))
    (fun i r => S3 r.1 ∧ r.2.1.length + i = ps.length ∧ r.2.2.length = i ∧ (r.2.2 ++ r.2.1).Perm ps) ⟨hs, rfl, rfl, .refl _⟩ (by
    rintro i x ⟨s, lf, os⟩ hx ⟨g, l1, l2, pm⟩
    obtain ⟨_, hi⟩ := rng_get hx
    simp only at l1 l2 pm
    obtain ⟨d, s1, e1, d0, d1, g1⟩ := draw g (many := (lf.length : Int)) (by omega) (by omega)
    obtain ⟨y, e2, hy⟩ := pop_at (xs := lf) d0 d1 (by omega)
    refine ⟨(s1, lf.eraseIdx d.toNat, os ++ [y]), ?_, g1, ?_, by simp [l2], ?_⟩
    · simp only [e1, e2, Option.bind_some]
      unfold appO
      rw [if_pos (by omega)]
      rfl
    · simp only
      rw [List.length_eraseIdx_of_lt (by omega)]
      omega
    · simp only
      rw [List.append_assoc]
      exact ((erase_perm hy).append_left os).trans pm)
  obtain ⟨⟨s1, lf, os⟩, e, g, l1, l2, pm⟩ := hf
  rw [e]
  simp only at l1 l2 pm
  rw [rng_len, Int.toNat_natCast] at l1
  have hlf : lf = [] := List.length_eq_zero_iff.mp (by omega)
  subst hlf
  rw [List.append_nil] at pm
  exact ⟨os, s1, rfl, pm, g⟩
theorem plan {s : List Int} {n : Nat} (hs : S3 s) (h0 : 1 ≤ n) (h1 : n ≤ 16) : ∃ pl s', m__law_plan (s, (n : Int)) = some (pl, s') ∧ pl.length = n ∧ Vp pl ∧ S3 s' := by
  obtain ⟨os, s1, e1, pm, g1⟩ := order (ps := rangeI 0 (n : Int)) hs (by rw [rng_len]; omega)
  have hol : os.length = n := by rw [pm.length_eq, rng_len]; omega
  have hom : ∀ {k : Int}, 0 ≤ k → k < n → ∃ y, atI os k = some y ∧ 0 ≤ y ∧ y < n := by
    intro k k0 k1
    obtain ⟨y, hy, hy2⟩ := at_ (xs := os) (i := k) k0 (by omega)
    have := pm.mem_iff.mp (List.mem_of_getElem? hy2)
    rw [mem_rng] at this
    exact ⟨y, hy, this⟩
  unfold m__law_plan
  simp only [rng (n := (n : Int)) (by omega) (by omega), e1, Option.bind_some]
  have hf := for_inv (τ := Unit) (xs := rangeI 0 (n : Int)) (r := (s1, rangeI 0 (n : Int))) (f := fun (x_k19 : Int) (rr : (List Int) × (List Int)) => (match rr with | (state16, plan17) => ((m__law_draw (state16, (x_k19 + (3 : Int)))).bind fun (r20, state22) =>
      (cond (decide (r20 < x_k19)) ((atI os r20).bind fun t28 =>
      (atI os x_k19).bind fun t30 =>
      (setO plan17 t30 t28).bind fun plan32 =>
      some plan32) (cond (decide (r20 = x_k19)) ((atI os x_k19).bind fun t36 =>
      (setO plan17 t36 (-(1 : Int))).bind fun plan38 =>
      some plan38) (some plan17))).bind fun plan27 =>
      some (.nx (state22, plan27))) : Option (Ctl ((List Int) × (List Int)) Unit)))
    (fun _ r => S3 r.1 ∧ r.2.length = n ∧ ∀ x ∈ r.2, -1 ≤ x ∧ x < n) ⟨g1, by simp only; rw [rng_len]; omega, fun x hx => by simp only at hx; rw [mem_rng] at hx; omega⟩ (by
    rintro i x ⟨s, pl⟩ hx ⟨g, l1, l2⟩
    obtain ⟨rfl, hi⟩ := rng_get hx
    simp only at l1 l2
    obtain ⟨d, s2, e2, d0, d1, g2⟩ := draw g (many := (i : Int) + 3) (by omega) (by omega)
    obtain ⟨y, hy, y0, y1⟩ := hom (k := (i : Int)) (by omega) (by omega)
    have fin : ∀ z : Int, -1 ≤ z → z < n → (pl.set y.toNat z).length = n ∧ ∀ x ∈ pl.set y.toNat z, -1 ≤ x ∧ x < n := by
      intro z z0 z1
      refine ⟨by rw [List.length_set]; exact l1, fun x hx => ?_⟩
      rcases List.mem_or_eq_of_mem_set hx with hx | rfl
      · exact l2 x hx
      · exact ⟨z0, z1⟩
    simp only [e2, Option.bind_some]
    by_cases h1 : d < (i : Int)
    · obtain ⟨z, hz, z0, z1⟩ := hom (k := d) d0 (by omega)
      simp only [decide_eq_true h1, cond_true, hz, hy, Option.bind_some, set_ (xs := pl) z y0 (by omega)]
      exact ⟨_, rfl, g2, fin z (by omega) z1⟩
    · by_cases h2 : d = (i : Int)
      · simp only [decide_eq_false h1, cond_false, decide_eq_true h2, cond_true, hy, Option.bind_some, set_ (xs := pl) (-(1 : Int)) y0 (by omega)]
        exact ⟨_, rfl, g2, fin (-1) (by omega) (by omega)⟩
      · simp only [decide_eq_false h1, cond_false, decide_eq_false h2, Option.bind_some]
        exact ⟨_, rfl, g2, l1, l2⟩)
  obtain ⟨⟨s2, pl⟩, e, g, l1, l2⟩ := hf
  rw [e]
  simp only at l1 l2
  refine ⟨pl, s2, rfl, l1, fun p hp => ?_, g⟩
  rw [l1]
  rw [List.getD_eq_getElem?_getD, List.getElem?_eq_getElem hp, Option.getD_some]
  exact l2 _ (List.getElem_mem _)
theorem bent_one {pl ys : List Int} {b : Int} (b0 : 0 ≤ b) (b1 : b < 3) (h1 : pl.length ≤ 16) (hyl : ys.length ≤ 100) : ∃ z, atI [([] : List Int), ys, pl ++ [(pl.length : Int)]] b = some z ∧ z.length ≤ 1000 := by
  have hc : b = 0 ∨ b = 1 ∨ b = 2 := by omega
  rcases hc with rfl | rfl | rfl
  · exact ⟨_, rfl, Nat.zero_le _⟩
  · exact ⟨_, rfl, by omega⟩
  · exact ⟨_, rfl, by rw [List.length_append, List.length_singleton]; omega⟩
theorem bent_c {s2 : List Int} {E a : Int} (g2 : S3 s2) : ∃ c s3, (cond (decide ((0 : Int) ≤ E)) ((cond (!decide (E = a)) ((m__law_draw (s2, (3 : Int))).bind fun (r33, state35) => some ((decide ((0 : Int) < r33)), state35)) (some (false, s2))).bind fun (b36, state38) => some (b36, state38)) (some (false, s2))) = some (c, s3) ∧ S3 s3 ∧ (c = true → 0 ≤ E) := by
  by_cases hE0 : 0 ≤ E
  · rw [decide_eq_true hE0, cond_true]
    by_cases hEa : E = a
    · rw [decide_eq_true hEa]
      exact ⟨false, s2, rfl, g2, fun z => nomatch z⟩
    · obtain ⟨b, s3, e3, b0, b1, g3⟩ := draw g2 (many := 3) (by decide) (by decide)
      rw [decide_eq_false hEa, Bool.not_false, cond_true, e3]
      exact ⟨decide (0 < b), s3, rfl, g3, fun _ => hE0⟩
  · rw [decide_eq_false hE0, cond_false]
    exact ⟨false, s2, rfl, g2, fun z => nomatch z⟩
theorem bent_loop {s4 pl : List Int} (xs : List Int) (g4 : S3 s4) (h0 : 1 ≤ pl.length) (h1 : pl.length ≤ 16) : ∃ r', forL (fun (turn56 : Int) (rr : (List Int) × (List Int)) => (match rr with | (state53, bent54) => ((m__law_draw (state53, ((bent54.length : Int) + (4 : Int)))).bind fun (r57, state59) =>
    (m__law_draw (state59, (bent54.length : Int))).bind fun (r60, state62) =>
    (setO bent54 r60 (r57 - (3 : Int))).bind fun bent63 =>
    some (.nx (state62, bent63))) : Option (Ctl ((List Int) × (List Int)) Unit))) xs (s4, pl) = some (.nx r') ∧ S3 r'.1 ∧ r'.2.length = pl.length := by
  refine for_inv (τ := Unit) (ρ := List Int × List Int) (fun _ r => S3 r.1 ∧ r.2.length = pl.length) ⟨g4, rfl⟩ ?_
  rintro i x ⟨s, bt⟩ hx ⟨g, l1⟩
  simp only at l1
  obtain ⟨u, s5, e5, u0, u1, g5⟩ := draw g (many := (bt.length : Int) + 4) (by omega) (by omega)
  obtain ⟨w, s6, e6, w0, w1, g6⟩ := draw g5 (many := (bt.length : Int)) (by omega) (by omega)
  simp only [e5, e6, Option.bind_some, set_ (xs := bt) (u - 3) w0 w1]
  exact ⟨_, rfl, g6, by simp only; rw [List.length_set]; exact l1⟩
theorem law_end_lt {pl : List Int} {a : Int} (h1 : pl.length ≤ 16) (v : Vp pl) (a0 : 0 ≤ a) (a1 : a < pl.length) : ∃ E, m__law_end (pl, a) = some E ∧ E < pl.length := by
  have hvx : Vx pl a := ⟨by omega, a1⟩
  refine ⟨_, law_end (by omega) v hvx, ?_⟩
  have hv2 := it_ok v pl.length hvx
  split
  · exact hv2.2
  · omega
theorem bent_plan {s pl : List Int} (hs : S3 s) (h0 : 1 ≤ pl.length) (h1 : pl.length ≤ 16) (v : Vp pl) : ∃ b s', m__law_bent_plan (s, pl) = some (b, s') ∧ b.length ≤ 1000 := by
  obtain ⟨d, s1, e1, d0, d1, g1⟩ := draw hs (many := 8) (by decide) (by decide)
  unfold m__law_bent_plan
  simp only [e1, Option.bind_some]
  by_cases hd : d = 0
  · obtain ⟨a, s2, e2, a0, a1, g2⟩ := draw g1 (many := 9) (by decide) (by decide)
    obtain ⟨b, s3, e3, b0, b1, g3⟩ := draw g2 (many := 3) (by decide) (by decide)
    obtain ⟨ys, hy, hyl⟩ := rep1 (x := -(1 : Int)) (n := 17 + a) (by omega) (by omega)
    obtain ⟨z, hz, hz2⟩ := bent_one (ys := ys) b0 b1 h1 (by omega)
    rw [decide_eq_true hd, cond_true]
    simp only [e2, Option.bind_some]
    rw [hy, Option.bind_some, cat1 (xs := pl) (ys := [(pl.length : Int)]) (by rw [List.length_singleton]; omega)]
    simp only [e3, Option.bind_some]
    rw [hz]
    exact ⟨z, s3, rfl, hz2⟩
  · obtain ⟨a, s2, e2, a0, a1, g2⟩ := draw g1 (many := (pl.length : Int)) (by omega) (by omega)
    obtain ⟨E, hend, hEr⟩ := law_end_lt h1 v a0 a1
    obtain ⟨c, s3, hc, g3, hcE⟩ := bent_c (E := E) (a := a) g2
    rw [decide_eq_false hd, cond_false, e2, Option.bind_some]
    dsimp only
    rw [hend, Option.bind_some, hc, Option.bind_some]
    dsimp only
    cases c with
    | true =>
      simp only [cond_true, set_ (xs := pl) a (hcE rfl) hEr, Option.bind_some]
      exact ⟨_, _, rfl, by rw [List.length_set]; omega⟩
    | false =>
      obtain ⟨b, s4, e4, b0, b1, g4⟩ := draw g3 (many := 2) (by decide) (by decide)
      simp only [cond_false, e4, rng (n := 1 + b) (by omega) (by omega), Option.bind_some]
      have hf := bent_loop (pl := pl) (rangeI 0 (1 + b)) g4 h0 h1
      obtain ⟨⟨s5, bt⟩, e, g, l1⟩ := hf
      rw [e]
      simp only at l1
      exact ⟨bt, s5, rfl, by omega⟩
end M

/-! M13 -/
set_option Elab.async false
set_option linter.all false
set_option maxRecDepth 100000
set_option maxHeartbeats 1000000
namespace M
open PySem Dl G
open L2 (atI ixN)
theorem for_any {α : Type} {τ : Type} {f : α → Unit → Option (Ctl Unit τ)} (bad : α → Bool) (r : τ) {xs : List α} (h : ∀ x ∈ xs, f x () = some (if bad x then .rt r else .nx ())) : forL f xs () = some (if xs.any bad then .rt r else .nx ()) := by
  rw [for_find bad (fun _ => r) h]
  cases hf : xs.find? bad with
  | none =>
    have : xs.any bad = false := by
      rw [List.any_eq_false]
      intro x hx
      rw [List.find?_eq_none] at hf
      exact hf x hx
    rw [this]
    rfl
  | some x =>
    have : xs.any bad = true := List.any_eq_true.mpr ⟨x, List.mem_of_find?_eq_some hf, List.find?_some hf⟩
    rw [this]
    rfl
abbrev Part := List Int × Int
/-- what the parts charge for a road -/
def ch (ps : List Part) (p e : Int) : Int := ((ps.filter fun x => decide (p ∈ x.1) && !decide (e ∈ x.1)).map fun x => x.2).sum
theorem charged (ps : List Part) (p e : Int) (hl : ps.length ≤ 1000) : m_charged (ps, p, e) = some (ch ps p e) := by
  unfold m_charged
  dsimp only
  rw [lcO_pure (fun x : Part => decide (p ∈ x.1) && !decide (e ∈ x.1)) (fun x => x.2) (by omega) (fun _ _ => rfl) fun _ _ _ => rfl]
  rfl
/-- a part as it should be -/
def gd (sh : List Int) (x : Part) : Bool := !(decide (x.1.length = 0) || decide (x.2 < 0)) && (x.1.all fun p => decide (p ∈ sh)) && decide (x.1 = usort x.1)
theorem is_part (sh : List Int) (x : Part) (hl : x.1.length < 60) : m_is_part (isort sh, x.1, x.2) = some (gd sh x) := by
  unfold m_is_part gd
  dsimp only
  have e0 : decide ((x.1.length : Int) = 0) = decide (x.1.length = 0) := by rw [decide_eq_decide]; omega
  rw [e0]
  cases hb : (decide (x.1.length = 0) || decide (x.2 < 0)) with
  | true => rfl
  | false =>
    rw [cond_false]
    have e1 : m_lies_in (x.1, isort sh) = some (x.1.all fun p => decide (p ∈ sh)) := by
      unfold m_lies_in
      dsimp only
      rw [lcO_all (fun p => decide (p ∈ isort sh)) (by omega) fun _ _ => rfl]
      simp only [Option.bind_some]
      congr 1
      rw [List.all_map]
      congr 1
      funext p
      show decide (p ∈ isort sh) = decide (p ∈ sh)
      rw [decide_eq_decide]
      exact (isort_perm sh).mem_iff
    rw [e1, Option.bind_some]
    cases (x.1.all fun p => decide (p ∈ sh)) with
    | false => rfl
    | true =>
      rw [cond_true]
      unfold sortSetO
      rw [if_pos hl]
      simp
end M

/-! M14 -/
set_option Elab.async false
set_option linter.all false
set_option maxRecDepth 100000
set_option maxHeartbeats 1000000
namespace M
open PySem Dl G
open L2 (atI ixN)
def cellv (t : List (List Int)) (p e : Int) : Int := (atI (t.getD p.toNat []) e).getD 0
def vi (t : List (List Int)) (ps : List Part) (p e : Int) : Bool := decide (cellv t p e < ch ps p e)
/-- shut places: places, each once -/
def Sh (n : Nat) (sh : List Int) : Prop := sh.Nodup ∧ ∀ p ∈ sh, 0 ≤ p ∧ p < n
theorem nodup_len : ∀ {xs L : List Int}, xs.Nodup → (∀ x ∈ xs, x ∈ L) → xs.length ≤ L.length
  | [], _, _, _ => Nat.zero_le _
  | x :: xs, L, h, k => by
    rw [List.nodup_cons] at h
    have hx := k x List.mem_cons_self
    have ih := nodup_len (L := L.erase x) h.2 fun y hy => (List.mem_erase_of_ne (show y ≠ x from fun e => h.1 (by rw [← e]; exact hy))).mpr (k y (List.mem_cons_of_mem _ hy))
    rw [List.length_erase_of_mem hx] at ih
    have := List.length_pos_of_mem hx
    rw [List.length_cons]
    omega
theorem sh_len {n : Nat} {sh : List Int} (h : Sh n sh) : sh.length ≤ n := by
  have h1 : sh.length ≤ (rangeI 0 (n : Int)).length := nodup_len h.1 fun p hp => mem_rng.mpr (h.2 p hp)
  rw [rng_len] at h1
  omega
theorem check_sh {n : Nat} {sh : List Int} (h0 : 1 ≤ n) (h1 : n ≤ 16) (h : Sh n sh) : m_check_places ((n : Int), sh) = some (.ok (isort sh)) := by
  have hl := sh_len h
  rw [check_places sh (by omega) (by omega) (by omega)]
  have : (List.range sh.length).find? (badPl n sh) = none := by
    rw [List.find?_eq_none]
    intro i hi
    rw [List.mem_range] at hi
    have hg : sh.getD i 0 = sh[i] := by rw [List.getD_eq_getElem?_getD, List.getElem?_eq_getElem hi]; rfl
    have hm := h.2 sh[i] (List.getElem_mem hi)
    have hn : sh[i] ∉ sh.take i := by
      intro hm
      obtain ⟨j, hj, he⟩ := List.mem_iff_getElem.mp hm
      rw [List.getElem_take] at he
      have := (List.getElem_inj h.1).mp he
      rw [List.length_take] at hj
      omega
    unfold badPl
    rw [hg, decide_eq_true hm.1, decide_eq_true hm.2, decide_eq_false hn]
    simp
  rw [this]
theorem cell_ok {t : List (List Int)} (h : TabOk t) {p e : Int} (p0 : 0 ≤ p) (p1 : p < t.length) (he : e = -1 ∨ (0 ≤ e ∧ e ≤ t.length)) : atI t p = some (t.getD p.toNat []) ∧ atI (t.getD p.toNat []) e = some (cellv t p e) := by
  have hr := (h.2.2 p.toNat (by omega)).1
  refine ⟨at_p [] p0 p1, ?_⟩
  rcases he with rfl | he
  · unfold cellv
    rw [at_m1 0 hr]
    rfl
  · unfold cellv
    rw [at_p 0 he.1 (by omega)]
    rfl
theorem bill_holds {t : List (List Int)} {sh : List Int} {ps : List Part} (h : TabOk t) (hs : Sh t.length sh) (hl : ps.length ≤ 1000) (hp : ∀ x ∈ ps, x.1.length < 60) :
    m_bill_holds (t, sh, ps) = some (.ok (ps.all (gd sh) && !(isort sh).any fun p => (-1 :: (rangeI 0 (t.length : Int)).filter fun x => !decide (x ∈ [p])).any (vi t ps p))) := by
  unfold m_bill_holds
  simp only [check_ok h, check_sh h.1 h.2.1 hs, Option.bind_some]
  rw [lcO_all (gd sh) (by omega) fun x hx => by simp only [is_part sh x (hp x hx), Option.bind_some]]
  simp only [Option.bind_some]
  have ea : (ps.map (gd sh)).all id = ps.all (gd sh) := by rw [List.all_map]; rfl
  rw [ea]
  cases ps.all (gd sh) with
  | false => rfl
  | true =>
    rw [Bool.not_true, cond_false]
    rw [for_any (fun p => (-1 :: (rangeI 0 (t.length : Int)).filter fun x => !decide (x ∈ [p])).any (vi t ps p)) (.ok false)]
    · cases (isort sh).any (fun p => (-1 :: (rangeI 0 (t.length : Int)).filter fun x => !decide (x ∈ [p])).any (vi t ps p)) <;> rfl
    · intro p hpm
      have hpr := hs.2 p ((isort_perm sh).mem_iff.mp hpm)
      rw [ends (by omega) (by have := h.2.1; omega), Option.bind_some]
      rw [for_any (vi t ps p) (.ok false)]
      · cases (-1 :: (rangeI 0 (t.length : Int)).filter fun x => !decide (x ∈ [p])).any (vi t ps p) <;> rfl
      · intro e he
        have her : e = -1 ∨ (0 ≤ e ∧ e ≤ t.length) := by
          rcases List.mem_cons.mp he with rfl | he
          · exact .inl rfl
          · rw [List.mem_filter, mem_rng] at he
            exact .inr (by omega)
        obtain ⟨c1, c2⟩ := cell_ok h hpr.1 hpr.2 her
        rw [charged ps p e hl, Option.bind_some, c1, Option.bind_some, c2, Option.bind_some]
        show cond (vi t ps p e) _ _ = some (if vi t ps p e = true then _ else _)
        cases vi t ps p e <;> rfl
end M

/-! M15 -/
set_option Elab.async false
set_option linter.all false
set_option maxRecDepth 100000
set_option maxHeartbeats 1000000
namespace M
open PySem Dl G
open L2 (atI ixN)
/-- the law's own look at a part -/
def gk (sh : List Int) (xs : List Int) (k : Int) : Bool := !decide (xs.getD k.toNat 0 ∈ sh) || (decide (0 < k) && decide (xs.getD k.toNat 0 ≤ xs.getD (k.toNat - 1) 0))
theorem up_iff (xs : List Int) : xs = usort xs ↔ ∀ k, 0 < k → k < xs.length → xs.getD (k - 1) 0 < xs.getD k 0 := by
  have g : ∀ {k : Nat} (h : k < xs.length), xs.getD k 0 = xs[k] := fun h => by rw [List.getD_eq_getElem?_getD, List.getElem?_eq_getElem h]; rfl
  constructor
  · intro h k k0 k1
    have hp : xs.Pairwise (· < ·) := by rw [h]; exact usort_up xs
    rw [g (by omega), g k1]
    exact (List.pairwise_iff_getElem.mp hp) (k - 1) k (by omega) k1 (by omega)
  · intro h
    have st : ∀ d i, i + d + 1 < xs.length → xs.getD i 0 < xs.getD (i + d + 1) 0 := by
      intro d
      induction d with
      | zero => exact fun i hi => h (i + 1) (by omega) hi
      | succ d ih =>
        intro i hi
        have h1 := ih i (by omega)
        have h2 := h (i + (d + 1) + 1) (by omega) hi
        rw [show i + (d + 1) + 1 - 1 = i + d + 1 by omega] at h2
        omega
    have hp : xs.Pairwise (· < ·) := by
      rw [List.pairwise_iff_getElem]
      intro i j hi hj hij
      have := st (j - i - 1) i (by omega)
      rw [show i + (j - i - 1) + 1 = j by omega, g hi, g hj] at this
      exact this
    exact up_unique hp (usort_up xs) fun z => (usort_mem z xs).symm
theorem gd_k (sh : List Int) (x : Part) (h : (decide (x.1.length = 0) || decide (x.2 < 0)) = false) : gd sh x = !(rangeI 0 (x.1.length : Int)).any (gk sh x.1) := by
  unfold gd
  rw [h, Bool.not_false, Bool.true_and, Bool.eq_iff_iff, Bool.and_eq_true, Bool.not_eq_true', List.any_eq_false, List.all_eq_true, decide_eq_true_eq, up_iff]
  have g : ∀ {k : Nat} (h : k < x.1.length), x.1.getD k 0 = x.1[k] := fun h => by rw [List.getD_eq_getElem?_getD, List.getElem?_eq_getElem h]; rfl
  constructor
  · rintro ⟨h1, h2⟩ k hk
    rw [mem_rng] at hk
    have m := h1 (x.1.getD k.toNat 0) (by rw [g (by omega)]; exact List.getElem_mem _)
    rw [decide_eq_true_eq] at m
    unfold gk
    rw [decide_eq_true m, Bool.not_true, Bool.false_or, Bool.and_eq_true, decide_eq_true_eq, decide_eq_true_eq]
    intro z
    have := h2 k.toNat (by omega) (by omega)
    omega
  · intro h1
    refine ⟨fun p hp => ?_, fun k k0 k1 => ?_⟩
    · obtain ⟨i, hi, rfl⟩ := List.mem_iff_getElem.mp hp
      have := h1 (i : Int) (mem_rng.mpr ⟨by omega, by omega⟩)
      unfold gk at this
      rw [Int.toNat_natCast, g hi] at this
      simp only [Bool.or_eq_true, Bool.not_eq_true', not_or, Bool.not_eq_false] at this
      exact this.1
    · have := h1 (k : Int) (mem_rng.mpr ⟨by omega, by omega⟩)
      unfold gk at this
      rw [Int.toNat_natCast] at this
      simp only [Bool.or_eq_true, not_or, Bool.and_eq_true, decide_eq_true_eq, not_and] at this
      have := this.2 (by omega)
      omega
end M

/-! M16 -/
set_option Elab.async false
set_option linter.all false
set_option maxRecDepth 100000
set_option maxHeartbeats 1000000
namespace M
open PySem Dl G
open L2 (atI ixN)
theorem law_part (sh : List Int) (x : Part) (hl : x.1.length < 60) : (cond ((decide ((x.1.length : Int) = (0 : Int))) || (decide (x.2 < (0 : Int)))) (some (.rt false)) ((rngO (0 : Int) (x.1.length : Int)).bind fun xs8 =>
  finK (fun (_ : Unit) => (some (.nx ()))) (fun (tt : Bool) => some (.rt tt)) (forL (fun (x_k11 : Int) (_ : Unit) => ((atI x.1 x_k11).bind fun t12 =>
  (cond (!decide (t12 ∈ sh)) (some true) ((cond (decide ((0 : Int) < x_k11)) ((atI x.1 (x_k11 - (1 : Int))).bind fun t14 => (atI x.1 x_k11).bind fun t16 => some (decide (t16 ≤ t14))) (some false)).bind fun b18 => some b18)).bind fun b20 =>
  cond b20 (some (.rt false)) (some (.nx ())) : Option (Ctl Unit Bool))) xs8 ())) : Option (Ctl Unit Bool)) = some (if (!gd sh x) then .rt false else .nx ()) := by
  have e0 : decide ((x.1.length : Int) = 0) = decide (x.1.length = 0) := by rw [decide_eq_decide]; omega
  rw [e0]
  cases hb : (decide (x.1.length = 0) || decide (x.2 < 0)) with
  | true =>
    have : gd sh x = false := by
      unfold gd
      rw [hb]
      rfl
    rw [this]
    rfl
  | false =>
    rw [gd_k sh x hb, cond_false, rng (by omega) (by omega), Option.bind_some, for_any (gk sh x.1) false]
    · rw [Bool.not_not]
      cases (rangeI 0 (x.1.length : Int)).any (gk sh x.1) <;> rfl
    · intro k hk
      rw [mem_rng] at hk
      rw [at_p 0 hk.1 hk.2, Option.bind_some]
      have : (cond (!decide (x.1.getD k.toNat 0 ∈ sh)) (some true) ((cond (decide ((0 : Int) < k)) ((atI x.1 (k - (1 : Int))).bind fun t14 => (some (x.1.getD k.toNat 0)).bind fun t16 => some (decide (t16 ≤ t14))) (some false)).bind fun b18 => some b18)) = some (gk sh x.1 k) := by
        unfold gk
        cases decide (x.1.getD k.toNat 0 ∈ sh) with
        | false => rfl
        | true =>
          rw [Bool.not_true, cond_false, Bool.false_or]
          by_cases h0 : 0 < k
          · rw [decide_eq_true h0, cond_true, at_p 0 (by omega : 0 ≤ k - 1) (by omega), show (k - 1).toNat = k.toNat - 1 by omega]
            rfl
          · rw [decide_eq_false h0]
            rfl
      rw [this, Option.bind_some]
      cases gk sh x.1 k <;> rfl
theorem any_congr {xs : List Int} {f g : Int → Bool} (h : ∀ x ∈ xs, f x = g x) : xs.any f = xs.any g := by
  induction xs with
  | nil => rfl
  | cons x xs ih => rw [List.any_cons, List.any_cons, h x List.mem_cons_self, ih fun y hy => h y (List.mem_cons_of_mem _ hy)]
theorem law_holds {t : List (List Int)} {sh : List Int} {ps : List Part} (h : TabOk t) (hs : Sh t.length sh) (hl : ps.length ≤ 1000) (hp : ∀ x ∈ ps, x.1.length < 60) :
    m__law_holds (t, sh, ps) = some (ps.all (gd sh) && !sh.any fun p => (rangeI 0 ((t.length : Int) + 1)).any fun e => decide (e ≠ p) && vi t ps p e) := by
  unfold m__law_holds
  dsimp only
  have ho := for_any (f := (fun (x_part2 : (List Int) × Int) (_ : Unit) => (cond ((decide ((x_part2.1.length : Int) = (0 : Int))) || (decide (x_part2.2 < (0 : Int)))) (some (.rt false)) ((rngO (0 : Int) (x_part2.1.length : Int)).bind fun xs8 =>
    finK (fun (_ : Unit) => (some (.nx ()))) (fun (tt : Bool) => some (.rt tt)) (forL (fun (x_k11 : Int) (_ : Unit) => ((atI x_part2.1 x_k11).bind fun t12 =>
    (cond (!decide (t12 ∈ sh)) (some true) ((cond (decide ((0 : Int) < x_k11)) ((atI x_part2.1 (x_k11 - (1 : Int))).bind fun t14 => (atI x_part2.1 x_k11).bind fun t16 => some (decide (t16 ≤ t14))) (some false)).bind fun b18 => some b18)).bind fun b20 =>
    cond b20 (some (.rt false)) (some (.nx ())) : Option (Ctl Unit Bool))) xs8 ())) : Option (Ctl Unit Bool)))) (xs := ps) (fun x => !gd sh x) false fun x hx => law_part sh x (hp x hx)
  rw [ho]
  have ea : ps.all (gd sh) = !(ps.any fun x => !gd sh x) := by rw [List.not_any_eq_all_not]; simp
  rw [ea]
  cases ps.any (fun x => !gd sh x) with
  | true => rfl
  | false =>
    rw [Bool.not_false, Bool.true_and]
    show finK _ _ _ = _
    rw [for_any (fun p => (rangeI 0 ((t.length : Int) + 1)).any fun e => decide (e ≠ p) && vi t ps p e) false]
    · cases sh.any (fun p => (rangeI 0 ((t.length : Int) + 1)).any fun e => decide (e ≠ p) && vi t ps p e) <;> rfl
    · intro p hpm
      have hpr := hs.2 p hpm
      have := h.2.1
      rw [rng (by omega) (by omega), Option.bind_some]
      rw [for_any (fun e => decide (e ≠ p) && vi t ps p e) false]
      · cases (rangeI 0 ((t.length : Int) + 1)).any (fun e => decide (e ≠ p) && vi t ps p e) <;> rfl
      · intro e he
        rw [mem_rng] at he
        by_cases hep : e = p
        · rw [hep, decide_eq_true rfl]
          have : decide (p ≠ p) = false := decide_eq_false (fun h => h rfl)
          rw [this]
          rfl
        · have e1 : decide (e ≠ p) = true := decide_eq_true hep
          obtain ⟨c1, c2⟩ := cell_ok h hpr.1 hpr.2 (e := e) (.inr (by omega))
          rw [decide_eq_false hep, Bool.not_false, cond_true, e1, Bool.true_and, lcO_pure (fun x : Part => decide (p ∈ x.1) && !decide (e ∈ x.1)) (fun x => x.2) (by omega) (fun _ _ => rfl) fun _ _ _ => rfl]
          rw [Option.bind_some]
          dsimp only
          rw [c1, Option.bind_some, c2, Option.bind_some]
          show cond (vi t ps p e) _ _ = some (if vi t ps p e = true then _ else _)
          cases vi t ps p e <;> rfl
end M

/-! M17 -/
set_option Elab.async false
set_option linter.all false
set_option maxRecDepth 100000
set_option maxHeartbeats 1000000
namespace M
open PySem Dl G
open L2 (atI ixN)
theorem ch_out {n : Nat} {sh : List Int} {ps : List Part} {p : Int} (hs : Sh n sh) (hg : ∀ x ∈ ps, gd sh x = true) : ch ps p (-1) = ch ps p (n : Int) := by
  unfold ch
  congr 2
  refine List.filter_congr fun x hx => ?_
  have h2 : ∀ e : Int, ¬ (0 ≤ e ∧ e < n) → e ∉ x.1 := fun e he hm => by
    have := hg x hx
    unfold gd at this
    simp only [Bool.and_eq_true, List.all_eq_true, decide_eq_true_eq] at this
    exact he (hs.2 e (this.1.2 e hm))
  rw [decide_eq_false (h2 (-1) (by omega)), decide_eq_false (h2 (n : Int) (by omega))]
theorem bill_eq {t : List (List Int)} {sh : List Int} {ps : List Part} (h : TabOk t) (hs : Sh t.length sh) (hl : ps.length ≤ 1000) (hp : ∀ x ∈ ps, x.1.length < 60) : ∃ b, m__law_holds (t, sh, ps) = some b ∧ m_bill_holds (t, sh, ps) = some (.ok b) := by
  refine ⟨_, law_holds h hs hl hp, ?_⟩
  rw [bill_holds h hs hl hp]
  congr 2
  cases ha : ps.all (gd sh) with
  | false => rfl
  | true =>
    rw [List.all_eq_true] at ha
    rw [Bool.true_and, Bool.true_and]
    congr 1
    rw [Bool.eq_iff_iff, List.any_eq_true, List.any_eq_true]
    have cn : ∀ p : Int, 0 ≤ p → p < t.length → vi t ps p (-1) = vi t ps p (t.length : Int) := fun p p0 p1 => by
      unfold vi
      rw [ch_out hs ha]
      have hr := (h.2.2 p.toNat (by omega)).1
      have : cellv t p (-1) = cellv t p (t.length : Int) := by
        unfold cellv
        rw [at_m1 0 hr, at_n 0 (by omega)]
      rw [this]
    constructor
    · rintro ⟨p, hpm, hx⟩
      have hpm2 := (isort_perm sh).mem_iff.mp hpm
      have hpr := hs.2 p hpm2
      refine ⟨p, hpm2, ?_⟩
      rw [List.any_eq_true] at hx ⊢
      obtain ⟨e, he, hv⟩ := hx
      rcases List.mem_cons.mp he with rfl | he
      · refine ⟨(t.length : Int), mem_rng.mpr ⟨by omega, by omega⟩, ?_⟩
        rw [← cn p hpr.1 hpr.2, hv, Bool.and_true]
        exact decide_eq_true (by omega)
      · rw [List.mem_filter, mem_rng] at he
        have hne : e ≠ p := by simpa using he.2
        refine ⟨e, mem_rng.mpr ⟨by omega, by omega⟩, ?_⟩
        rw [hv, Bool.and_true]
        exact decide_eq_true hne
    · rintro ⟨p, hpm, hx⟩
      have hpr := hs.2 p hpm
      refine ⟨p, (isort_perm sh).mem_iff.mpr hpm, ?_⟩
      rw [List.any_eq_true] at hx ⊢
      obtain ⟨e, he, hv⟩ := hx
      rw [mem_rng] at he
      rw [Bool.and_eq_true, decide_eq_true_eq] at hv
      by_cases hen : e = t.length
      · refine ⟨-1, List.mem_cons_self, ?_⟩
        rw [cn p hpr.1 hpr.2, ← hen]
        exact hv.2
      · exact ⟨e, List.mem_cons_of_mem _ (List.mem_filter.mpr ⟨mem_rng.mpr ⟨he.1, by omega⟩, by simpa using hv.1⟩), hv.2⟩
end M

/-! M18 -/
set_option Elab.async false
set_option linter.all false
set_option maxRecDepth 100000
set_option maxHeartbeats 1000000
namespace M
open PySem Dl G
open L2 (atI ixN)
/-- what is left of a table -/
def Lf (n : Nat) (l : List (List Int)) : Prop := l.length = n ∧ ∀ row ∈ l, row.length = n + 1 ∧ ∀ x ∈ row, 0 ≤ x
theorem lf_of {t : List (List Int)} (h : TabOk t) : Lf t.length t := by
  refine ⟨rfl, fun row hm => ⟨tab_len h hm, fun x hx => ?_⟩⟩
  obtain ⟨p, hp, rfl⟩ := List.mem_iff_getElem.mp hm
  obtain ⟨e, he, rfl⟩ := List.mem_iff_getElem.mp hx
  have hr := h.2.2 p hp
  have hg : t.getD p [] = t[p] := by rw [List.getD_eq_getElem?_getD, List.getElem?_eq_getElem hp]; rfl
  rw [hg] at hr
  have hlr := hr.1
  by_cases hep : e = p
  · have := hr.2.1
    rw [List.getD_eq_getElem?_getD, List.getElem?_eq_getElem (by omega), Option.getD_some] at this
    simp only [hep, this]
    omega
  · have := hr.2.2 e (by omega) hep
    rw [List.getD_eq_getElem?_getD, List.getElem?_eq_getElem he, Option.getD_some] at this
    omega
theorem lf_row {n : Nat} {l : List (List Int)} (h : Lf n l) {p : Nat} (hp : p < n) : (l.getD p []).length = n + 1 ∧ ∀ x ∈ l.getD p [], 0 ≤ x := by
  have : l.getD p [] ∈ l := by
    rw [List.getD_eq_getElem?_getD, List.getElem?_eq_getElem (by have := h.1; omega), Option.getD_some]
    exact List.getElem_mem _
  exact h.2 _ this
theorem borne {n : Nat} {l : List (List Int)} {c : List Int} (hn : n ≤ 16) (h : Lf n l) (hc : ∀ p ∈ c, 0 ≤ p ∧ p < n) : ∃ m, m__law_borne (l, c) = some m ∧ 0 ≤ m ∧ m ≤ 16000001 ∧ ∀ p ∈ c, ∀ e : Nat, e < n + 1 → (e : Int) ∉ c → m ≤ (l.getD p.toNat []).getD e 0 := by
  unfold m__law_borne
  dsimp only
  have hf := for_inv (τ := Unit) (ρ := Int) (xs := c) (r := (16000001 : Int)) (f := (fun (place6 : Int) (most4 : Int) => ((rngO (0 : Int) ((l.length : Int) + (1 : Int))).bind fun xs7 =>
    finK (fun (most9 : Int) => (some (.nx most9))) (fun (_ : Unit) => none) (forL (fun (x_end11 : Int) (most9 : Int) => ((cond (!decide (x_end11 ∈ c)) ((atI l place6).bind fun t14 =>
    (atI t14 x_end11).bind fun t16 =>
    some (if t16 < most9 then t16 else most9)) (some most9)).bind fun most13 =>
    some (.nx most13) : Option (Ctl Int Unit))) xs7 most4) : Option (Ctl Int Unit))))
    (fun i m => 0 ≤ m ∧ m ≤ 16000001 ∧ ∀ j p, j < i → c[j]? = some p → ∀ e : Nat, e < n + 1 → (e : Int) ∉ c → m ≤ (l.getD p.toNat []).getD e 0) ⟨by decide, by decide, fun j p hj => absurd hj (Nat.not_lt_zero _)⟩ (by
    intro i p m hp ⟨m0, m1, mm⟩
    have hpr := hc p (List.mem_of_getElem? hp)
    have hrow := lf_row h (p := p.toNat) (by omega)
    have hl := h.1
    simp only [hl, rng (n := (n : Int) + 1) (by omega) (by omega), Option.bind_some]
    have hg := for_inv (τ := Unit) (ρ := Int) (xs := rangeI 0 ((n : Int) + 1)) (r := m) (f := (fun (x_end11 : Int) (most9 : Int) => ((cond (!decide (x_end11 ∈ c)) ((atI l p).bind fun t14 =>
      (atI t14 x_end11).bind fun t16 =>
      some (if t16 < most9 then t16 else most9)) (some most9)).bind fun most13 =>
      some (.nx most13) : Option (Ctl Int Unit))))
      (fun i r => 0 ≤ r ∧ r ≤ m ∧ ∀ e : Nat, e < i → (e : Int) ∉ c → r ≤ (l.getD p.toNat []).getD e 0) ⟨m0, Int.le_refl _, fun e he => absurd he (Nat.not_lt_zero _)⟩ (by
      intro k x r hx ⟨r0, r1, rr⟩
      have hx2 := rng_get (n := n + 1) (i := k) (x := x) (by simpa using hx)
      obtain ⟨rfl, hk⟩ := hx2
      by_cases hkc : (k : Int) ∈ c
      · rw [decide_eq_true hkc]
        refine ⟨r, rfl, r0, r1, fun e he hec => ?_⟩
        by_cases hek : e = k
        · exact absurd (hek ▸ hkc) hec
        · exact rr e (by omega) hec
      · rw [decide_eq_false hkc, Bool.not_false, cond_true, at_p [] hpr.1 (by omega), Option.bind_some, at_n 0 (by omega : k < (l.getD p.toNat []).length), Option.bind_some, Option.bind_some]
        have hv : 0 ≤ (l.getD p.toNat []).getD k 0 := by
          rw [List.getD_eq_getElem?_getD, List.getElem?_eq_getElem (by omega), Option.getD_some]
          exact hrow.2 _ (List.getElem_mem _)
        refine ⟨_, rfl, ?_, ?_, fun e he hec => ?_⟩
        · split <;> omega
        · split <;> omega
        · by_cases hek : e = k
          · subst hek
            split <;> omega
          · have := rr e (by omega) hec
            split <;> omega)
    obtain ⟨r, e1, r0, r1, rr⟩ := hg
    rw [e1]
    refine ⟨r, rfl, r0, by omega, fun j q hj hq e he hec => ?_⟩
    by_cases hji : j = i
    · subst hji
      rw [hp] at hq
      cases hq
      exact rr e (by rw [rng_len]; omega) hec
    · have := mm j q (by omega) hq e he hec
      omega)
  obtain ⟨m, e1, m0, m1, mm⟩ := hf
  rw [e1]
  refine ⟨m, rfl, m0, m1, fun p hp e he hec => ?_⟩
  obtain ⟨j, hj, rfl⟩ := List.mem_iff_getElem.mp hp
  exact mm j _ hj (List.getElem?_eq_getElem hj) e he hec
end M

/-! M19 -/
set_option Elab.async false
set_option linter.all false
set_option maxRecDepth 100000
set_option maxHeartbeats 1000000
namespace M
open PySem Dl G
open L2 (atI ixN)
/-- a price is taken from one row -/
theorem sub_row {c : List Int} {price : Int} {j : Nat} {row : List Int} {l : List (List Int)} (hl : row.length ≤ 1000) (hj : l[j]? = some row) : ∃ row', forL (fun (x_end81 : Int) (rr : (List (List Int)) × (List Int)) => (match rr with | (left78, row79) => ((cond (!decide (x_end81 ∈ c)) ((atI row79 x_end81).bind fun t85 =>
  (setO row79 x_end81 (t85 - price)).bind fun row87 =>
  some ((left78.set j row87), row87)) (some (left78, row79))).bind fun (left83, row84) =>
  some (.nx (left83, row84))) : Option (Ctl ((List (List Int)) × (List Int)) Unit))) (rangeI 0 (row.length : Int)) (l, row) = some (.nx (l.set j row', row')) ∧ row'.length = row.length ∧ ∀ e : Nat, e < row.length → row'.getD e 0 = if (e : Int) ∈ c then row.getD e 0 else row.getD e 0 - price := by
  have h0 : l.set j row = l := by
    obtain ⟨hlt, he⟩ := List.getElem?_eq_some_iff.mp hj
    rw [← he, List.set_getElem_self]
  obtain ⟨⟨L, r⟩, e1, h1, h2, h3⟩ := for_inv (τ := Unit) (ρ := List (List Int) × List Int) (xs := rangeI 0 (row.length : Int)) (r := (l, row)) (f := fun (x_end81 : Int) (rr : (List (List Int)) × (List Int)) => (match rr with | (left78, row79) => ((cond (!decide (x_end81 ∈ c)) ((atI row79 x_end81).bind fun t85 =>
      (setO row79 x_end81 (t85 - price)).bind fun row87 =>
      some ((left78.set j row87), row87)) (some (left78, row79))).bind fun (left83, row84) =>
      some (.nx (left83, row84))) : Option (Ctl ((List (List Int)) × (List Int)) Unit)))
    (fun i r => r.1 = l.set j r.2 ∧ r.2.length = row.length ∧ ∀ e : Nat, e < row.length → r.2.getD e 0 = if e < i ∧ (e : Int) ∉ c then row.getD e 0 - price else row.getD e 0)
    ⟨h0.symm, rfl, fun e he => by rw [if_neg (by omega)]⟩ (by
    rintro i x ⟨L, r⟩ hx ⟨h1, h2, h3⟩
    obtain ⟨rfl, hi⟩ := rng_get hx
    simp only at h1 h2 h3
    by_cases hc : (i : Int) ∈ c
    · rw [decide_eq_true hc]
      refine ⟨(L, r), rfl, h1, h2, fun e he => ?_⟩
      simp only
      rw [h3 e he]
      by_cases hei : e = i
      · subst hei
        rw [if_neg (by omega), if_neg (fun z => z.2 hc)]
      · have : (e < i ∧ (e : Int) ∉ c) ↔ (e < i + 1 ∧ (e : Int) ∉ c) := by constructor <;> intro h <;> exact ⟨by omega, h.2⟩
        simp only [this]
    · rw [decide_eq_false hc]
      refine ⟨(l.set j (r.set i (r.getD i 0 - price)), r.set i (r.getD i 0 - price)), ?_, rfl, by simp only; rw [List.length_set]; exact h2, fun e he => ?_⟩
      · simp only [Bool.not_false, cond_true, at_n 0 (by omega : i < r.length), Option.bind_some, set_ (xs := r) (i := (i : Int)) (r.getD i 0 - price) (by omega) (by omega), Int.toNat_natCast, h1, List.set_set]
      · simp only
        by_cases hei : e = i
        · subst hei
          rw [if_pos ⟨by omega, hc⟩, List.getD_eq_getElem?_getD, List.getElem?_set_self (by omega), Option.getD_some, h3 e he, if_neg (by omega)]
        · rw [List.getD_eq_getElem?_getD, List.getElem?_set_ne (fun z => hei z.symm), ← List.getD_eq_getElem?_getD, h3 e he]
          have : (e < i ∧ (e : Int) ∉ c) ↔ (e < i + 1 ∧ (e : Int) ∉ c) := by constructor <;> intro h <;> exact ⟨by omega, h.2⟩
          simp only [this])
  simp only at h1 h2 h3
  refine ⟨r, ?_, h2, fun e he => ?_⟩
  · rw [e1, h1]
  · rw [h3 e he]
    by_cases hc : (e : Int) ∈ c
    · rw [if_pos hc, if_neg (fun z => z.2 hc)]
    · rw [if_neg hc, if_pos ⟨by rw [rng_len]; omega, hc⟩]
end M

/-! M20 -/
set_option Elab.async false
set_option linter.all false
set_option maxRecDepth 100000
set_option maxHeartbeats 1000000
namespace M
open PySem Dl G
open L2 (atI ixN)
theorem sub_all {n : Nat} {c : List Int} {price : Int} (hn : n ≤ 16) : ∀ {rest : List Int} {l : List (List Int)}, rest.Nodup → Lf n l → (∀ p ∈ rest, 0 ≤ p ∧ p < n) → (∀ p ∈ rest, ∀ e : Nat, e < n + 1 → (e : Int) ∉ c → price ≤ (l.getD p.toNat []).getD e 0) →
    ∃ l', forL (fun (place65 : Int) (left63 : (List (List Int))) => ((rowO left63 place65).bind fun (j66, row67) =>
      (rngO (0 : Int) (row67.length : Int)).bind fun xs76 =>
      finK (fun (rr : (List (List Int)) × (List Int)) => match rr with | (left78, row79) => (some (.nx left78))) (fun (_ : Unit) => none) (forL (fun (x_end81 : Int) (rr : (List (List Int)) × (List Int)) => (match rr with | (left78, row79) => ((cond (!decide (x_end81 ∈ c)) ((atI row79 x_end81).bind fun t85 =>
      (setO row79 x_end81 (t85 - price)).bind fun row87 =>
      some ((left78.set j66 row87), row87)) (some (left78, row79))).bind fun (left83, row84) =>
      some (.nx (left83, row84))) : Option (Ctl ((List (List Int)) × (List Int)) Unit))) xs76 (left63, row67)) : Option (Ctl (List (List Int)) Unit))) rest l = some (.nx l') ∧ Lf n l'
  | [], l, _, hl, _, _ => ⟨l, rfl, hl⟩
  | p :: rest, l, nd, hl, hr, hp => by
    rw [List.nodup_cons] at nd
    have hpr := hr p List.mem_cons_self
    have hrow := lf_row hl (p := p.toNat) (by omega)
    have hll := hl.1
    have hj : l[p.toNat]? = some (l.getD p.toNat []) := by
      rw [List.getD_eq_getElem?_getD, List.getElem?_eq_getElem (by omega)]; rfl
    obtain ⟨r', e1, l1, v1⟩ := sub_row (c := c) (price := price) (by omega : (l.getD p.toNat []).length ≤ 1000) hj
    have hl' : Lf n (l.set p.toNat r') := by
      refine ⟨by rw [List.length_set]; exact hll, fun row hm => ?_⟩
      rcases List.mem_or_eq_of_mem_set hm with hm | rfl
      · exact hl.2 row hm
      · refine ⟨by omega, fun x hx => ?_⟩
        obtain ⟨e, he, rfl⟩ := List.mem_iff_getElem.mp hx
        have hv := v1 e (by omega)
        rw [List.getD_eq_getElem?_getD, List.getElem?_eq_getElem he, Option.getD_some] at hv
        have hx0 : 0 ≤ (l.getD p.toNat []).getD e 0 := by
          rw [List.getD_eq_getElem?_getD, List.getElem?_eq_getElem (by omega), Option.getD_some]
          exact hrow.2 _ (List.getElem_mem _)
        by_cases hc : (e : Int) ∈ c
        · rw [if_pos hc] at hv
          omega
        · rw [if_neg hc] at hv
          have := hp p List.mem_cons_self e (by omega) hc
          omega
    obtain ⟨l2, e2, h2⟩ := sub_all hn (rest := rest) nd.2 hl' (fun q hq => hr q (List.mem_cons_of_mem _ hq)) fun q hq e he hec => by
      have hqr := hr q (List.mem_cons_of_mem _ hq)
      have hne : q.toNat ≠ p.toNat := fun z => nd.1 (by rw [show p = q by omega]; exact hq)
      rw [List.getD_eq_getElem?_getD (l := l.set p.toNat r'), List.getElem?_set_ne (fun z => hne z.symm), ← List.getD_eq_getElem?_getD]
      exact hp q (List.mem_cons_of_mem _ hq) e he hec
    refine ⟨l2, ?_, h2⟩
    unfold forL
    rw [row_at hpr.1 (by omega), Option.bind_some]
    dsimp only
    rw [rng (by omega) (by omega), Option.bind_some, e1]
    exact e2
end M

/-! M21 -/
set_option Elab.async false
set_option linter.all false
set_option maxRecDepth 100000
set_option maxHeartbeats 1000000
namespace M
open PySem Dl G
open L2 (atI ixN)
theorem lc_sel {α ρ : Type} {tf : α → ρ → Option (Bool × ρ)} (I : ρ → Prop) : ∀ {xs : List α} {r : ρ}, I r → (∀ x r, I r → ∃ b r', tf x r = some (b, r') ∧ I r') → ∃ ys r', lcM tf (fun x r => some (x, r)) xs r = some (ys, r') ∧ ys.Sublist xs ∧ I r'
  | [], r, h, _ => ⟨[], r, rfl, .slnil, h⟩
  | x :: xs, r, h, st => by
    obtain ⟨b, r1, e1, h1⟩ := st x r h
    obtain ⟨ys, r2, e2, s2, h2⟩ := lc_sel I (xs := xs) h1 st
    cases b with
    | false =>
      refine ⟨ys, r2, ?_, s2.cons x, h2⟩
      unfold lcM
      rw [e1]
      exact e2
    | true =>
      refine ⟨x :: ys, r2, ?_, s2.cons₂ x, h2⟩
      unfold lcM
      rw [e1]
      simp only [e2]
theorem set_draw {s : List Int} {xs : List Int} (hs : S3 s) (hl : xs.length ≤ 1000) : ∃ ys s', lcO (fun (place : Int) (rr : (List Int)) => match rr with | st => (m__law_draw (st, (2 : Int))).bind fun (r22, state24) => some ((decide (r22 = (1 : Int))), state24)) (fun (place : Int) (rr : (List Int)) => match rr with | state24 => some (place, state24)) xs s = some (ys, s') ∧ ys.Sublist xs ∧ S3 s' := by
  unfold lcO
  rw [if_pos (by omega)]
  refine lc_sel S3 hs fun x r g => ?_
  obtain ⟨d, s1, e1, _, _, g1⟩ := draw g (many := 2) (by decide) (by decide)
  exact ⟨decide (d = 1), s1, by simp only [e1, Option.bind_some], g1⟩
/-- a part as it is drawn -/
def Pg (n : Nat) (x : Part) : Prop := 1 ≤ x.1.length ∧ x.1.length ≤ n
theorem parts {s : List Int} {t : List (List Int)} {sh : List Int} (hs : S3 s) (h : TabOk t) (hsh : Sh t.length sh) (h1 : 1 ≤ sh.length) : ∃ ps s', m__law_parts (s, t, sh) = some (ps, s') ∧ ps.length ≤ 5 ∧ (∀ x ∈ ps, Pg t.length x) ∧ S3 s' := by
  have ht := h.2.1
  have hsl := sh_len hsh
  obtain ⟨d, s1, e1, d0, d1, g1⟩ := draw hs (many := 5) (by decide) (by decide)
  unfold m__law_parts
  dsimp only
  rw [copy_ (by omega), Option.bind_some, e1, Option.bind_some]
  dsimp only
  rw [rng d0 (by omega), Option.bind_some]
  have hf := for_inv (τ := Unit) (ρ := List Int × List (List Int) × List Part) (xs := rangeI 0 d) (r := (s1, t, ([] : List Part))) (f := (fun (turn21 : Int) (rr : (List Int) × (List (List Int)) × (List ((List Int) × Int))) => (match rr with | (state17, left18, parts19) => ((lcO (fun (place : Int) (rr : (List Int)) => match rr with | state17 => (m__law_draw (state17, (2 : Int))).bind fun (r22, state24) => some ((decide (r22 = (1 : Int))), state24)) (fun (place : Int) (rr : (List Int)) => match rr with | state24 => some (place, state24)) (isort sh) state17).bind fun (ys25, state27) =>
  (cond (decide ((ys25.length : Int) = (0 : Int))) ((m__law_draw (state27, (sh.length : Int))).bind fun (r34, state36) =>
  (atI sh r34).bind fun t37 =>
  some (state36, [t37])) (some (state27, ys25))).bind fun (state32, chosen33) =>
  (m__law_borne (left18, chosen33)).bind fun r44 =>
  (m__law_draw (state32, (3 : Int))).bind fun (r49, state51) =>
  (cond (decide (r49 = (0 : Int))) ((m__law_draw (state51, (r44 + (1 : Int)))).bind fun (r55, state57) =>
  some (state57, r55)) (some (state51, r44))).bind fun (state53, price54) =>
  finK (fun (left63 : (List (List Int))) => ((appO parts19 (chosen33, price54)).bind fun parts100 =>
  some (.nx (state53, left63, parts100)))) (fun (_ : Unit) => none) (forL (fun (place65 : Int) (left63 : (List (List Int))) => ((rowO left63 place65).bind fun (j66, row67) =>
  (rngO (0 : Int) (row67.length : Int)).bind fun xs76 =>
  finK (fun (rr : (List (List Int)) × (List Int)) => match rr with | (left78, row79) => (some (.nx left78))) (fun (_ : Unit) => none) (forL (fun (x_end81 : Int) (rr : (List (List Int)) × (List Int)) => (match rr with | (left78, row79) => ((cond (!decide (x_end81 ∈ chosen33)) ((atI row79 x_end81).bind fun t85 =>
  (setO row79 x_end81 (t85 - price54)).bind fun row87 =>
  some ((left78.set j66 row87), row87)) (some (left78, row79))).bind fun (left83, row84) =>
  some (.nx (left83, row84))) : Option (Ctl ((List (List Int)) × (List Int)) Unit))) xs76 (left63, row67)) : Option (Ctl (List (List Int)) Unit))) chosen33 left18)) : Option (Ctl ((List Int) × (List (List Int)) × (List ((List Int) × Int))) Unit))))
    (fun i r => S3 r.1 ∧ Lf t.length r.2.1 ∧ r.2.2.length = i ∧ ∀ x ∈ r.2.2, Pg t.length x) ⟨g1, lf_of h, rfl, fun x hx => nomatch hx⟩ (by
    rintro i x ⟨s, l, ps⟩ hx ⟨g, hl, hpl, hpg⟩
    have hi : i < 5 := by
      have := (List.getElem?_eq_some_iff.mp hx).1
      rw [rng_len] at this
      omega
    simp only at hl hpl hpg
    have hil : (isort sh).length = sh.length := (isort_perm sh).length_eq
    obtain ⟨ys, s2, e2, sub, g2⟩ := set_draw (xs := isort sh) g (by omega)
    obtain ⟨c, s3, e3, g3, c1, c2, cnd, cm⟩ : ∃ c s3, (cond (decide ((ys.length : Int) = (0 : Int))) ((m__law_draw (s2, (sh.length : Int))).bind fun (r34, state36) => (atI sh r34).bind fun t37 => some (state36, [t37])) (some (s2, ys))) = some (s3, c) ∧ S3 s3 ∧ 1 ≤ c.length ∧ c.length ≤ t.length ∧ c.Nodup ∧ ∀ p ∈ c, p ∈ sh := by
      by_cases hy : ys.length = 0
      · obtain ⟨a, s3, e3, a0, a1, g3⟩ := draw g2 (many := (sh.length : Int)) (by omega) (by omega)
        obtain ⟨z, hz, hz2⟩ := at_ (xs := sh) a0 a1
        refine ⟨[z], s3, ?_, g3, Nat.le_refl _, h.1, by simp, fun p hp => ?_⟩
        · rw [decide_eq_true (by omega : (ys.length : Int) = 0), cond_true, e3, Option.bind_some]
          dsimp only
          rw [hz]
          rfl
        · rw [List.mem_singleton] at hp
          rw [hp]
          exact List.mem_of_getElem? hz2
      · refine ⟨ys, s2, ?_, g2, by omega, by have := sub.length_le; omega, sub.nodup ((isort_perm sh).symm.nodup hsh.1), fun p hp => (isort_perm sh).mem_iff.mp (sub.subset hp)⟩
        rw [decide_eq_false (by omega : ¬ (ys.length : Int) = 0)]
        rfl
    have cr : ∀ p ∈ c, 0 ≤ p ∧ p < t.length := fun p hp => hsh.2 p (cm p hp)
    obtain ⟨m, em, m0, m1, mm⟩ := borne (n := t.length) ht hl cr
    obtain ⟨a, s4, e4, a0, a1, g4⟩ := draw g3 (many := 3) (by decide) (by decide)
    obtain ⟨pr, s5, e5, g5, p0, p1⟩ : ∃ pr s5, (cond (decide (a = (0 : Int))) ((m__law_draw (s4, (m + (1 : Int)))).bind fun (r55, state57) => some (state57, r55)) (some (s4, m))) = some (s5, pr) ∧ S3 s5 ∧ 0 ≤ pr ∧ pr ≤ m := by
      by_cases ha : a = 0
      · obtain ⟨b, s5, e5, b0, b1, g5⟩ := draw g4 (many := m + 1) (by omega) (by omega)
        refine ⟨b, s5, ?_, g5, b0, by omega⟩
        rw [decide_eq_true ha, cond_true, e5]
        rfl
      · refine ⟨m, s4, ?_, g4, m0, Int.le_refl _⟩
        rw [decide_eq_false ha]
        rfl
    obtain ⟨l2, e6, h2⟩ := sub_all (c := c) (price := pr) ht cnd hl cr fun p hp e he hec => by have := mm p hp e he hec; omega
    refine ⟨(s5, l2, ps ++ [(c, pr)]), ?_, g5, h2, by simp [hpl], fun x hx => ?_⟩
    · dsimp only
      rw [e2, Option.bind_some]
      dsimp only
      rw [e3, Option.bind_some]
      dsimp only
      rw [em, Option.bind_some, e4, Option.bind_some]
      dsimp only
      rw [e5, Option.bind_some]
      dsimp only
      rw [e6]
      show (appO ps (c, pr)).bind _ = _
      unfold appO
      rw [if_pos (by omega)]
      rfl
    · simp only at hx
      rcases List.mem_append.mp hx with hx | hx
      · exact hpg x hx
      · rw [List.mem_singleton] at hx
        rw [hx]
        exact ⟨c1, c2⟩)
  obtain ⟨⟨s6, l, ps⟩, e6, g6, _, hpl, hpg⟩ := hf
  rw [e6]
  simp only at hpl hpg
  refine ⟨ps, s6, rfl, ?_, hpg, g6⟩
  rw [hpl, rng_len]
  omega
end M

/-! M22 -/
set_option Elab.async false
set_option linter.all false
set_option maxRecDepth 100000
set_option maxHeartbeats 1000000
namespace M
open PySem Dl G
open L2 (atI ixN)
/-- a part short enough to be looked at -/
def Ps (x : Part) : Prop := x.1.length < 60
theorem bent_in {ps : List Part} {r : Int} {st : List Int} {places : List Int} {price : Int} (r0 : 0 ≤ r) {b : List Part} (hb : r < b.length) (hb2 : b.length ≤ 10) (hp : ∀ x ∈ b, Ps x) (hq : places.length < 60) (g : S3 st) : ∃ b' s', (match (st, b, places, price) with | (state29, bent30, places31, price32) => (setO bent30 r (places31, price32)).bind fun bent87 => some (bent87, state29)) = some (b', s') ∧ b'.length ≤ 10 ∧ (∀ x ∈ b', Ps x) ∧ S3 s' := by
  dsimp only
  rw [set_ (xs := b) (i := r) (places, price) r0 (by omega), Option.bind_some]
  refine ⟨_, _, rfl, by rw [List.length_set]; exact hb2, fun x hx => ?_, g⟩
  rcases List.mem_or_eq_of_mem_set hx with hx | rfl
  · exact hp x hx
  · exact hq
theorem bent_parts {s : List Int} {ps : List Part} {n : Nat} (hs : S3 s) (h0 : 1 ≤ n) (h1 : n ≤ 16) (hl : ps.length ≤ 5) (hp : ∀ x ∈ ps, Pg n x) : ∃ b s', m__law_bent_parts (s, ps, (n : Int)) = some (b, s') ∧ b.length ≤ 10 ∧ (∀ x ∈ b, Ps x) ∧ S3 s' := by
  have hps : ∀ x ∈ ps, Ps x := fun x hx => by have := (hp x hx).2; unfold Ps; omega
  unfold m__law_bent_parts
  dsimp only
  by_cases hz : ps.length = 0
  · rw [decide_eq_true (by omega : (ps.length : Int) = 0), cond_true]
    refine ⟨_, _, rfl, by simp, fun x hx => ?_, hs⟩
    rw [List.mem_singleton] at hx
    subst hx
    unfold Ps
    simp
  rw [decide_eq_false (by omega : ¬ (ps.length : Int) = 0), cond_false]
  obtain ⟨r, s1, e1, r0, r1, g1⟩ := draw hs (many := (ps.length : Int)) (by omega) (by omega)
  obtain ⟨x, hx, hx2⟩ := at_ (xs := ps) r0 r1
  have hm := List.mem_of_getElem? hx2
  have hxp := hp x hm
  have hx1 := hxp.1
  have hx2 := hxp.2
  obtain ⟨k, s2, e2, k0, k1, g2⟩ := draw g1 (many := 8) (by decide) (by decide)
  rw [e1, Option.bind_some]
  dsimp only
  rw [hx, Option.bind_some, Option.bind_some, e2, Option.bind_some]
  dsimp only
  have fin := fun (st : List Int) (b : List Part) (places : List Int) (price : Int) (hb : r < b.length) (hb2 : b.length ≤ 10) (hq' : ∀ x ∈ b, Ps x) (hq : places.length < 60) (g : S3 st) => bent_in (ps := ps) (r := r) (st := st) (places := places) (price := price) r0 hb hb2 hq' hq g
  by_cases c0 : k < 2
  · rw [decide_eq_true c0, cond_true, Option.bind_some]
    exact fin s2 ps x.1 (x.2 + 1) r1 (by omega) hps (by omega) g2
  rw [decide_eq_false c0, cond_false]
  by_cases c1 : k = 2
  · rw [decide_eq_true c1, cond_true, Option.bind_some]
    exact fin s2 ps x.1 (-(1 : Int)) r1 (by omega) hps (by omega) g2
  rw [decide_eq_false c1, cond_false]
  by_cases c2 : k = 3
  · obtain ⟨a, s3, e3, a0, a1, g3⟩ := draw g2 (many := (n : Int)) (by omega) (by omega)
    obtain ⟨b, s4, e4, b0, b1, g4⟩ := draw g3 (many := 3) (by decide) (by decide)
    obtain ⟨z, hz1, _⟩ := at_ (xs := [(n : Int), (-(1 : Int)), a]) (i := b) b0 b1
    rw [decide_eq_true c2, cond_true, e3, Option.bind_some]
    dsimp only
    rw [e4, Option.bind_some]
    dsimp only
    rw [hz1, Option.bind_some, cat1 (by simp; omega), Option.bind_some, Option.bind_some]
    exact fin s4 ps (isort (x.1 ++ [z])) x.2 r1 (by omega) hps (by rw [(isort_perm _).length_eq]; simp; omega) g4
  rw [decide_eq_false c2, cond_false]
  by_cases c3 : k = 4
  · obtain ⟨a, s3, e3, a0, a1, g3⟩ := draw g2 (many := (x.1.length : Int)) (by omega) (by omega)
    obtain ⟨y, hy, _⟩ := pop_at (xs := x.1) a0 a1 (by omega)
    rw [decide_eq_true c3, cond_true, e3, Option.bind_some]
    dsimp only
    rw [hy, Option.bind_some]
    dsimp only
    rw [Option.bind_some]
    exact fin s3 ps (x.1.eraseIdx a.toNat) x.2 r1 (by omega) hps (by have := List.length_eraseIdx_le x.1 a.toNat; omega) g3
  rw [decide_eq_false c3, cond_false]
  by_cases c4 : k = 5
  · rw [decide_eq_true c4, cond_true, Option.bind_some]
    exact fin s2 ps x.1.reverse x.2 r1 (by omega) hps (by rw [List.length_reverse]; omega) g2
  rw [decide_eq_false c4, cond_false]
  by_cases c5 : k = 6
  · obtain ⟨a, s3, e3, a0, a1, g3⟩ := draw g2 (many := (ps.length : Int)) (by omega) (by omega)
    obtain ⟨y, hy, hy2⟩ := at_ (xs := ps) a0 a1
    rw [decide_eq_true c5, cond_true, e3, Option.bind_some]
    dsimp only
    rw [hy, Option.bind_some]
    unfold appO
    rw [if_pos (by omega), Option.bind_some, Option.bind_some]
    refine fin s3 (ps ++ [y]) x.1 x.2 (by simp; omega) (by simp; omega) (fun z hz => ?_) (by omega) g3
    rcases List.mem_append.mp hz with hz | hz
    · exact hps z hz
    · rw [List.mem_singleton] at hz
      rw [hz]
      exact hps y (List.mem_of_getElem? hy2)
  rw [decide_eq_false c5, cond_false]
  have hc : (cut x.1 (some (-(1 : Int))) none).length ≤ x.1.length := by
    unfold cut
    rw [List.length_take, List.length_drop]
    omega
  rw [cat1 (by omega), Option.bind_some, Option.bind_some]
  exact fin s2 ps (x.1 ++ cut x.1 (some (-(1 : Int))) none) x.2 r1 (by omega) hps (by rw [List.length_append]; omega) g2
end M

/-! M23 -/
set_option Elab.async false
set_option linter.all false
set_option maxRecDepth 100000
set_option maxHeartbeats 1000000
namespace M
open PySem Dl G
open L2 (atI ixN)
theorem set_ok {s : List Int} {n : Nat} (hs : S3 s) (h1 : n ≤ 16) : ∃ ys s', m__law_set (s, (n : Int)) = some (ys, s') ∧ ys.Sublist (rangeI 0 (n : Int)) ∧ S3 s' := by
  obtain ⟨ys, s', e, sub, g⟩ := set_draw (s := s) (xs := rangeI 0 (n : Int)) hs (by rw [rng_len]; omega)
  unfold m__law_set
  dsimp only
  rw [rng (by omega) (by omega), Option.bind_some, e]
  exact ⟨ys, s', rfl, sub, g⟩
theorem rng_nodup (n : Nat) : (rangeI 0 (n : Int)).Nodup := by
  rw [rng_nat, List.nodup_iff_pairwise_ne, List.pairwise_map]
  refine (List.nodup_range (n := n)).imp ?_
  intro a b h z
  exact h (by omega)
theorem bill_told_ok {t : List (List Int)} {sh : List Int} {ps : List Part} (h : TabOk t) (hs : Sh t.length sh) (hl : ps.length ≤ 1000) (hp : ∀ x ∈ ps, x.1.length < 60) : ∃ b, m__law_holds (t, sh, ps) = some b ∧ m__law_bill_told (t, sh, ps) = some (tg_holds, .inr b) := by
  obtain ⟨b, e1, e2⟩ := bill_eq h hs hl hp
  refine ⟨b, e1, ?_⟩
  unfold m__law_bill_told
  dsimp only
  rw [e2, Option.bind_some]
theorem bill_told_bad {t : List (List Int)} {sh : List Int} {ps : List Part} {w : Int} (h : TabOk t) (e : m_check_places ((t.length : Int), sh) = some (.error (.one "BadPlace" "place" w))) : m__law_bill_told (t, sh, ps) = some (tg_place, .inl w) := by
  unfold m__law_bill_told m_bill_holds
  dsimp only
  rw [check_ok h, Option.bind_some]
  dsimp only
  rw [e, Option.bind_some, Option.bind_some]
  rfl
theorem wrong_put {n : Nat} {sh : List Int} {w : Int} {k : Nat} (h0 : 1 ≤ n) (h1 : n ≤ 16) (hs : Sh n sh) (hw : ¬ (0 ≤ w ∧ w < n)) (hk : k ≤ sh.length) : m_check_places ((n : Int), sh.take k ++ [w] ++ sh.drop k) = some (.error (.one "BadPlace" "place" w)) := by
  have hl := sh_len hs
  generalize hL : sh.take k ++ [w] ++ sh.drop k = L
  have pm : L.Perm (w :: sh) := by
    rw [← hL, List.append_assoc, List.singleton_append]
    refine List.perm_middle.trans ?_
    rw [List.take_append_drop]
  have hwn : w ∉ sh := fun z => hw (hs.2 w z)
  have nd : L.Nodup := pm.symm.nodup (List.nodup_cons.mpr ⟨hwn, hs.1⟩)
  have hLl : L.length = sh.length + 1 := by rw [pm.length_eq]; rfl
  rw [check_places L (by omega) (by omega) (by omega)]
  have gt : ∀ {i : Nat} (hi : i < L.length), L.getD i 0 = L[i] := fun hi => by rw [List.getD_eq_getElem?_getD, List.getElem?_eq_getElem hi]; rfl
  cases hf : (List.range L.length).find? (badPl n L) with
  | none =>
    exfalso
    rw [List.find?_eq_none] at hf
    have hm : w ∈ L := pm.symm.subset List.mem_cons_self
    obtain ⟨i, hi, he⟩ := List.mem_iff_getElem.mp hm
    refine hf i (List.mem_range.mpr hi) ?_
    unfold badPl
    rw [gt hi, he]
    have : (decide (0 ≤ w) && decide (w < (n : Int))) = false := by
      rw [Bool.and_eq_false_iff, decide_eq_false_iff_not, decide_eq_false_iff_not]
      omega
    rw [this]
    rfl
  | some i =>
    have hi := List.mem_range.mp (List.mem_of_find?_eq_some hf)
    have hb := List.find?_some hf
    have hm : L[i] ∈ w :: sh := pm.subset (List.getElem_mem hi)
    unfold badPl at hb
    rw [gt hi] at hb
    have hn : L[i] ∉ L.take i := by
      intro hm
      obtain ⟨j, hj, he⟩ := List.mem_iff_getElem.mp hm
      rw [List.getElem_take] at he
      have := (List.getElem_inj nd).mp he
      rw [List.length_take] at hj
      omega
    rw [decide_eq_false hn, Bool.or_false, Bool.not_eq_true', Bool.and_eq_false_iff, decide_eq_false_iff_not, decide_eq_false_iff_not] at hb
    rcases List.mem_cons.mp hm with he | hm
    · simp only [gt hi, he]
    · have := hs.2 _ hm
      omega
theorem bills_right {s : List Int} {t : List (List Int)} (hs : S3 s) (h : TabOk t) : ∃ s', m__law_bills_right (s, t) = some (true, s') := by
  have h1 := h.1
  have h2 := h.2.1
  obtain ⟨ys, s1, e1, sub, g1⟩ := set_ok hs h2
  have hyl : ys.length ≤ 16 := by have := sub.length_le; rw [rng_len] at this; omega
  obtain ⟨sh, s2, e2, pm, g2⟩ := order (ps := ys) g1 (by omega)
  have hsh : Sh t.length sh := ⟨pm.symm.nodup (sub.nodup (rng_nodup _)), fun p hp => mem_rng.mp (sub.subset (pm.subset hp))⟩
  unfold m__law_bills_right
  dsimp only
  rw [e1, Option.bind_some]
  dsimp only
  rw [e2, Option.bind_some]
  dsimp only
  by_cases hz : sh.length = 0
  · have hn0 : Sh t.length [] := ⟨.nil, fun p hp => nomatch hp⟩
    have q1 : m__law_bill_told (t, [], []) = some (tg_holds, .inr true) := by
      unfold m__law_bill_told
      dsimp only
      rw [bill_holds h hn0 (by simp) (fun x hx => absurd hx List.not_mem_nil)]
      rfl
    have q2 : m__law_bill_told (t, [], [([(0 : Int)], (0 : Int))]) = some (tg_holds, .inr false) := by
      unfold m__law_bill_told
      dsimp only
      rw [bill_holds h hn0 (by simp) (fun x hx => by rw [List.mem_singleton] at hx; subst hx; decide)]
      rfl
    rw [decide_eq_true (by omega : (sh.length : Int) = 0), cond_true, q1, Option.bind_some, q2]
    refine ⟨s2, ?_⟩
    simp [sndO, inrO]
  rw [decide_eq_false (by omega : ¬ (sh.length : Int) = 0), cond_false]
  obtain ⟨ps, s3, e3, pl, pg, g3⟩ := parts g2 h hsh (by omega)
  rw [e3, Option.bind_some]
  dsimp only
  obtain ⟨bs, s4, e4, bl, bg, g4⟩ := bent_parts g3 h1 h2 pl pg
  have psP : ∀ x ∈ ps, x.1.length < 60 := fun x hx => by have := (pg x hx).2; omega
  rw [e4, Option.bind_some]
  dsimp only
  rw [for_nx]
  · dsimp only [finK]
    obtain ⟨k, s5, e5, k0, k1, g5⟩ := draw g4 (many := (sh.length : Int) + 1) (by omega) (by have := sh_len hsh; omega)
    obtain ⟨d, s6, e6, d0, d1, g6⟩ := draw g5 (many := 9) (by decide) (by decide)
    obtain ⟨c, s7, e7, c0, c1, g7⟩ := draw g6 (many := 3) (by decide) (by decide)
    rw [e5, Option.bind_some]
    dsimp only
    rw [e6, Option.bind_some]
    dsimp only
    rw [e7, Option.bind_some]
    dsimp only
    obtain ⟨z, hz1, hz2⟩ := at_ (xs := [(t.length : Int), (-(1 : Int)), (((t.length : Int) + (1 : Int)) + d)]) (i := c) c0 c1
    have hzb : ¬ (0 ≤ z ∧ z < t.length) := by
      have := List.mem_of_getElem? hz2
      simp only [List.mem_cons, List.not_mem_nil, or_false] at this
      rcases this with rfl | rfl | rfl <;> omega
    obtain ⟨k', rfl⟩ : ∃ k' : Nat, k = (k' : Int) := ⟨k.toNat, by omega⟩
    have hsl := sh_len hsh
    have hkl : (sh.take k').length ≤ 16 := by rw [List.length_take]; omega
    have hkd : (sh.drop k').length ≤ 16 := by rw [List.length_drop]; omega
    rw [hz1, Option.bind_some, cut_to (by omega), cut_from (by omega), cat1 (by simp; omega), Option.bind_some, cat1 (by rw [List.length_append, List.length_singleton]; omega), Option.bind_some, bill_told_bad h (wrong_put h1 h2 hsh hzb (by omega)), Option.bind_some]
    refine ⟨s7, ?_⟩
    simp [sndO, inlO]
  · intro asked ha
    have hal : asked.length ≤ 1000 ∧ ∀ x ∈ asked, x.1.length < 60 := by
      simp only [List.mem_cons, List.not_mem_nil, or_false] at ha
      rcases ha with rfl | rfl | rfl
      · exact ⟨by omega, psP⟩
      · exact ⟨by omega, bg⟩
      · exact ⟨by omega, psP⟩
    obtain ⟨b, k1, k2⟩ := bill_told_ok h hsh hal.1 hal.2
    rw [k2, Option.bind_some]
    dsimp only
    rw [k1]
    simp [inrO]
end M

/-! M24 -/
set_option Elab.async false
set_option linter.all false
set_option maxRecDepth 100000
set_option maxHeartbeats 1000000
namespace M
open PySem Dl G
open L2 (atI ixN)
theorem plain (ns : List Int) : m_law ns = some true := by
  obtain ⟨s0, a0, g0⟩ := start ns 0 (by decide)
  obtain ⟨s1, a1, g1⟩ := start ns 1 (by decide)
  obtain ⟨s2, a2, g2⟩ := start ns 2 (by decide)
  obtain ⟨s3, a3, g3⟩ := start ns 3 (by decide)
  obtain ⟨s4, a4, g4⟩ := start ns 4 (by decide)
  obtain ⟨s5, a5, g5⟩ := start ns 5 (by decide)
  obtain ⟨n, s0', b0, n0, n1, _⟩ := draw_size g0 (a := 5) (b := 16) (by decide) (by decide)
  obtain ⟨n, rfl⟩ : ∃ n' : Nat, n = (n' : Int) := ⟨n.toNat, by omega⟩
  obtain ⟨t, s1', b1, tab, tl⟩ := tolls (n := n) g1 (by omega) (by omega)
  obtain ⟨s2', b2⟩ := tables_right g2 tab
  obtain ⟨s3', b3⟩ := roads_right g3 tab
  obtain ⟨pl, s4', b4, pll, pv, g4'⟩ := plan (n := n) g4 (by omega) (by omega)
  obtain ⟨bp, s4'', b5, bpl⟩ := bent_plan g4' (by omega) (by omega) pv
  obtain ⟨s5', b6⟩ := bills_right g5 tab
  unfold m_law
  rw [a0, Option.bind_some, b0, Option.bind_some]
  dsimp only
  rw [a1, Option.bind_some, b1, Option.bind_some]
  dsimp only
  rw [copy_ (by omega), Option.bind_some, a2, Option.bind_some, b2, Option.bind_some]
  dsimp only
  rw [Bool.not_true, cond_false, a3, Option.bind_some, b3, Option.bind_some]
  dsimp only
  rw [Option.bind_some, Bool.not_true, cond_false, a4, Option.bind_some, b4, Option.bind_some]
  dsimp only
  rw [b5, Option.bind_some]
  dsimp only
  rw [for_nx]
  · dsimp only [finK]
    rw [a5, Option.bind_some, b6, Option.bind_some]
    simp
  · intro pl' hm
    have hl : pl'.length ≤ 1000 := by
      simp only [List.mem_cons, List.not_mem_nil, or_false] at hm
      rcases hm with rfl | rfl | rfl <;> omega
    rw [plans_right tab hl, Option.bind_some]
    rfl
end M

/-! H27 -/
set_option Elab.async false
set_option linter.all false
set_option maxRecDepth 100000
set_option maxHeartbeats 0
namespace G
open PySem PySem.Spec PyProof.Rows L2 Dl
def d_check_places : He.DefD := ⟨("check_places", none), "check_places", "check_places", defArgs s_check_places, defBody s_check_places, defScope s_check_places, [], []⟩
def d_lies_in : He.DefD := ⟨("lies_in", none), "lies_in", "lies_in", defArgs s_lies_in, defBody s_lies_in, defScope s_lies_in, [], []⟩
def d_is_end : He.DefD := ⟨("is_end", none), "is_end", "is_end", defArgs s_is_end, defBody s_is_end, defScope s_is_end, [], []⟩
def d_ends_outside : He.DefD := ⟨("ends_outside", none), "ends_outside", "ends_outside", defArgs s_ends_outside, defBody s_ends_outside, defScope s_ends_outside, [], []⟩
def d_is_toll_row : He.DefD := ⟨("is_toll_row", none), "is_toll_row", "is_toll_row", defArgs s_is_toll_row, defBody s_is_toll_row, defScope s_is_toll_row, [], []⟩
def d_check_tolls : He.DefD := ⟨("check_tolls", none), "check_tolls", "check_tolls", defArgs s_check_tolls, defBody s_check_tolls, defScope s_check_tolls, [], []⟩
def d_check_road : He.DefD := ⟨("check_road", none), "check_road", "check_road", defArgs s_check_road, defBody s_check_road, defScope s_check_road, [], []⟩
def d_toll_of : He.DefD := ⟨("toll_of", none), "toll_of", "toll_of", defArgs s_toll_of, defBody s_toll_of, defScope s_toll_of, [], []⟩
def d_with_toll : He.DefD := ⟨("with_toll", none), "with_toll", "with_toll", defArgs s_with_toll, defBody s_with_toll, defScope s_with_toll, [], []⟩
def d_is_part : He.DefD := ⟨("is_part", none), "is_part", "is_part", defArgs s_is_part, defBody s_is_part, defScope s_is_part, [], []⟩
def d_charged : He.DefD := ⟨("charged", none), "charged", "charged", defArgs s_charged, defBody s_charged, defScope s_charged, [], []⟩
def d_bill_holds : He.DefD := ⟨("bill_holds", none), "bill_holds", "bill_holds", defArgs s_bill_holds, defBody s_bill_holds, defScope s_bill_holds, [], []⟩
def d_end_of : He.DefD := ⟨("end_of", none), "end_of", "end_of", defArgs s_end_of, defBody s_end_of, defScope s_end_of, [], []⟩
def d_plan_ends : He.DefD := ⟨("plan_ends", none), "plan_ends", "plan_ends", defArgs s_plan_ends, defBody s_plan_ends, defScope s_plan_ends, [], []⟩
def d_shut_in : He.DefD := ⟨("shut_in", none), "shut_in", "shut_in", defArgs s_shut_in, defBody s_shut_in, defScope s_shut_in, [], []⟩
def d_plan_price : He.DefD := ⟨("plan_price", none), "plan_price", "plan_price", defArgs s_plan_price, defBody s_plan_price, defScope s_plan_price, [], []⟩
def d__law_start : He.DefD := ⟨("_law_start", none), "_law_start", "_law_start", defArgs s__law_start, defBody s__law_start, defScope s__law_start, [], []⟩
def d__law_draw : He.DefD := ⟨("_law_draw", none), "_law_draw", "_law_draw", defArgs s__law_draw, defBody s__law_draw, defScope s__law_draw, [], []⟩
def d__law_size : He.DefD := ⟨("_law_size", none), "_law_size", "_law_size", defArgs s__law_size, defBody s__law_size, defScope s__law_size, [], []⟩
def d__law_set : He.DefD := ⟨("_law_set", none), "_law_set", "_law_set", defArgs s__law_set, defBody s__law_set, defScope s__law_set, [], []⟩
def d__law_order : He.DefD := ⟨("_law_order", none), "_law_order", "_law_order", defArgs s__law_order, defBody s__law_order, defScope s__law_order, [], []⟩
def d__law_whole : He.DefD := ⟨("_law_whole", none), "_law_whole", "_law_whole", defArgs s__law_whole, defBody s__law_whole, defScope s__law_whole, [], []⟩
def d__law_same_row : He.DefD := ⟨("_law_same_row", none), "_law_same_row", "_law_same_row", defArgs s__law_same_row, defBody s__law_same_row, defScope s__law_same_row, [], []⟩
def d__law_same_rows : He.DefD := ⟨("_law_same_rows", none), "_law_same_rows", "_law_same_rows", defArgs s__law_same_rows, defBody s__law_same_rows, defScope s__law_same_rows, [], []⟩
def d__law_copy : He.DefD := ⟨("_law_copy", none), "_law_copy", "_law_copy", defArgs s__law_copy, defBody s__law_copy, defScope s__law_copy, [], []⟩
def d__law_tolls : He.DefD := ⟨("_law_tolls", none), "_law_tolls", "_law_tolls", defArgs s__law_tolls, defBody s__law_tolls, defScope s__law_tolls, [], []⟩
def d__law_bent_tolls : He.DefD := ⟨("_law_bent_tolls", none), "_law_bent_tolls", "_law_bent_tolls", defArgs s__law_bent_tolls, defBody s__law_bent_tolls, defScope s__law_bent_tolls, [], []⟩
def d__law_wrong_row : He.DefD := ⟨("_law_wrong_row", none), "_law_wrong_row", "_law_wrong_row", defArgs s__law_wrong_row, defBody s__law_wrong_row, defScope s__law_wrong_row, [], []⟩
def d__law_table_told : He.DefD := ⟨("_law_table_told", none), "_law_table_told", "_law_table_told", defArgs s__law_table_told, defBody s__law_table_told, defScope s__law_table_told, [], []⟩
def d__law_tables_right : He.DefD := ⟨("_law_tables_right", none), "_law_tables_right", "_law_tables_right", defArgs s__law_tables_right, defBody s__law_tables_right, defScope s__law_tables_right, [], []⟩
def d__law_road_due : He.DefD := ⟨("_law_road_due", none), "_law_road_due", "_law_road_due", defArgs s__law_road_due, defBody s__law_road_due, defScope s__law_road_due, [], []⟩
def d__law_road_told : He.DefD := ⟨("_law_road_told", none), "_law_road_told", "_law_road_told", defArgs s__law_road_told, defBody s__law_road_told, defScope s__law_road_told, [], []⟩
def d__law_changed_told : He.DefD := ⟨("_law_changed_told", none), "_law_changed_told", "_law_changed_told", defArgs s__law_changed_told, defBody s__law_changed_told, defScope s__law_changed_told, [], []⟩
def d__law_number : He.DefD := ⟨("_law_number", none), "_law_number", "_law_number", defArgs s__law_number, defBody s__law_number, defScope s__law_number, [], []⟩
def d__law_roads_right : He.DefD := ⟨("_law_roads_right", none), "_law_roads_right", "_law_roads_right", defArgs s__law_roads_right, defBody s__law_roads_right, defScope s__law_roads_right, [], []⟩
def d__law_end : He.DefD := ⟨("_law_end", none), "_law_end", "_law_end", defArgs s__law_end, defBody s__law_end, defScope s__law_end, [], []⟩
def d__law_plan : He.DefD := ⟨("_law_plan", none), "_law_plan", "_law_plan", defArgs s__law_plan, defBody s__law_plan, defScope s__law_plan, [], []⟩
def d__law_bent_plan : He.DefD := ⟨("_law_bent_plan", none), "_law_bent_plan", "_law_bent_plan", defArgs s__law_bent_plan, defBody s__law_bent_plan, defScope s__law_bent_plan, [], []⟩
def d__law_wrong_in_plan : He.DefD := ⟨("_law_wrong_in_plan", none), "_law_wrong_in_plan", "_law_wrong_in_plan", defArgs s__law_wrong_in_plan, defBody s__law_wrong_in_plan, defScope s__law_wrong_in_plan, [], []⟩
def d__law_plan_told : He.DefD := ⟨("_law_plan_told", none), "_law_plan_told", "_law_plan_told", defArgs s__law_plan_told, defBody s__law_plan_told, defScope s__law_plan_told, [], []⟩
def d__law_plans_right : He.DefD := ⟨("_law_plans_right", none), "_law_plans_right", "_law_plans_right", defArgs s__law_plans_right, defBody s__law_plans_right, defScope s__law_plans_right, [], []⟩
def d__law_borne : He.DefD := ⟨("_law_borne", none), "_law_borne", "_law_borne", defArgs s__law_borne, defBody s__law_borne, defScope s__law_borne, [], []⟩
def d__law_parts : He.DefD := ⟨("_law_parts", none), "_law_parts", "_law_parts", defArgs s__law_parts, defBody s__law_parts, defScope s__law_parts, [], []⟩
def d__law_bent_parts : He.DefD := ⟨("_law_bent_parts", none), "_law_bent_parts", "_law_bent_parts", defArgs s__law_bent_parts, defBody s__law_bent_parts, defScope s__law_bent_parts, [], []⟩
def d__law_holds : He.DefD := ⟨("_law_holds", none), "_law_holds", "_law_holds", defArgs s__law_holds, defBody s__law_holds, defScope s__law_holds, [], []⟩
def d__law_bill_told : He.DefD := ⟨("_law_bill_told", none), "_law_bill_told", "_law_bill_told", defArgs s__law_bill_told, defBody s__law_bill_told, defScope s__law_bill_told, [], []⟩
def d__law_bills_right : He.DefD := ⟨("_law_bills_right", none), "_law_bills_right", "_law_bills_right", defArgs s__law_bills_right, defBody s__law_bills_right, defScope s__law_bills_right, [], []⟩
def d_law : He.DefD := ⟨("law", none), "law", "law", defArgs s_law, defBody s_law, defScope s_law, [], []⟩
def fn0 : List He.DefD := [d_check_places, d_lies_in, d_is_end, d_ends_outside, d_is_toll_row, d_check_tolls, d_check_road, d_toll_of, d_with_toll, d_is_part, d_charged, d_bill_holds, d_end_of, d_plan_ends, d_shut_in, d_plan_price, d__law_start, d__law_draw, d__law_size, d__law_set]
def fn1 : List He.DefD := [d__law_order, d__law_whole, d__law_same_row, d__law_same_rows, d__law_copy, d__law_tolls, d__law_bent_tolls, d__law_wrong_row, d__law_table_told, d__law_tables_right, d__law_road_due, d__law_road_told, d__law_changed_told, d__law_number, d__law_roads_right, d__law_end, d__law_plan, d__law_bent_plan, d__law_wrong_in_plan, d__law_plan_told]
def fn2 : List He.DefD := [d__law_plans_right, d__law_borne, d__law_parts, d__law_bent_parts, d__law_holds, d__law_bill_told, d__law_bills_right, d_law]
def fn : List He.DefD := fn0 ++ (fn1 ++ (fn2))
def fa0 : List He.Fa := [.glo "check_places", .glo "lies_in", .glo "is_end", .glo "ends_outside", .glo "is_toll_row", .glo "check_tolls", .glo "check_road", .glo "toll_of", .glo "with_toll", .glo "is_part", .glo "charged", .glo "bill_holds", .glo "end_of", .glo "plan_ends", .glo "shut_in", .glo "plan_price", .glo "_law_start", .glo "_law_draw", .glo "_law_size", .glo "_law_set"]
def fa1 : List He.Fa := [.glo "_law_order", .glo "_law_whole", .glo "_law_same_row", .glo "_law_same_rows", .glo "_law_copy", .glo "_law_tolls", .glo "_law_bent_tolls", .glo "_law_wrong_row", .glo "_law_table_told", .glo "_law_tables_right", .glo "_law_road_due", .glo "_law_road_told", .glo "_law_changed_told", .glo "_law_number", .glo "_law_roads_right", .glo "_law_end", .glo "_law_plan", .glo "_law_bent_plan", .glo "_law_wrong_in_plan", .glo "_law_plan_told"]
def fa2 : List He.Fa := [.glo "_law_plans_right", .glo "_law_borne", .glo "_law_parts", .glo "_law_bent_parts", .glo "_law_holds", .glo "_law_bill_told", .glo "_law_bills_right", .glo "law", .free "abs", .free "all", .free "bool", .free "enumerate", .free "int", .free "isinstance", .free "len", .free "list", .free "min", .free "range", .free "set", .free "sorted"]
def fa3 : List He.Fa := [.free "sum", .free "tuple", .int "HOME" (-1), .int "MOST" (16), .int "MOST_TOLL" (1000000), .glo "TiedError", .glo "BadPlace", .glo "BadSize", .glo "BadNumber", .glo "BadTolls", .glo "BadPlan", .exm "BadPlace" "BadNumber" false, .exm "BadPlace" "BadPlace" true, .exm "BadPlace" "BadPlan" false, .exm "BadPlace" "BadSize" false, .exm "BadPlace" "BadTolls" false, .exm "BadPlace" "TiedError" true, .exm "BadSize" "BadNumber" false, .exm "BadSize" "BadPlace" false, .exm "BadSize" "BadPlan" false]
def fa4 : List He.Fa := [.exm "BadSize" "BadSize" true, .exm "BadSize" "BadTolls" false, .exm "BadSize" "TiedError" true, .exm "BadNumber" "BadNumber" true, .exm "BadNumber" "BadPlace" false, .exm "BadNumber" "BadPlan" false, .exm "BadNumber" "BadSize" false, .exm "BadNumber" "BadTolls" false, .exm "BadNumber" "TiedError" true, .exm "BadTolls" "BadNumber" false, .exm "BadTolls" "BadPlace" false, .exm "BadTolls" "BadPlan" false, .exm "BadTolls" "BadSize" false, .exm "BadTolls" "BadTolls" true, .exm "BadTolls" "TiedError" true, .exm "BadPlan" "BadNumber" false, .exm "BadPlan" "BadPlace" false, .exm "BadPlan" "BadPlan" true, .exm "BadPlan" "BadSize" false, .exm "BadPlan" "BadTolls" false]
def fa5 : List He.Fa := [.exm "BadPlan" "TiedError" true]
def fa : List He.Fa := fa0 ++ (fa1 ++ (fa2 ++ (fa3 ++ (fa4 ++ (fa5)))))
def loose0 : List PySem.Str := ["TiedError", "BadPlace", "BadSize", "BadNumber", "BadTolls", "BadPlan", "HOME", "MOST", "check_places", "lies_in", "is_end", "ends_outside", "MOST_TOLL", "is_toll_row", "check_tolls", "check_road", "toll_of", "with_toll", "is_part", "charged"]
def loose1 : List PySem.Str := ["bill_holds", "end_of", "plan_ends", "shut_in", "plan_price", "_law_start", "_law_draw", "_law_size", "_law_set", "_law_order", "_law_whole", "_law_same_row", "_law_same_rows", "_law_copy", "_law_tolls", "_law_bent_tolls", "_law_wrong_row", "_law_table_told", "_law_tables_right", "_law_road_due"]
def loose2 : List PySem.Str := ["_law_road_told", "_law_changed_told", "_law_number", "_law_roads_right", "_law_end", "_law_plan", "_law_bent_plan", "_law_wrong_in_plan", "_law_plan_told", "_law_plans_right", "_law_borne", "_law_parts", "_law_bent_parts", "_law_holds", "_law_bill_told", "_law_bills_right"]
def loose : List PySem.Str := loose0 ++ (loose1 ++ (loose2))
abbrev R : PySem.W.OpenRow := PySem.W.OpenLaw.row PySem.Challenge.rw_ringfolk_k27_plans_and_bills
def fileS : Str := R.prog.main.file
def excB (x : Str) (K : Fg) : Bool := He.eqO (PySem.W.findIn K (.ref (He.ga K x)) "__getattribute__") (some (some (.builtin "BaseException.__getattribute__"))) && (He.eqO (PySem.W.findIn K (.ref (He.ga K x)) "__getattr__") (some none) &&
  (decide (PySem.W.subIn K (.ref (He.ga K x)) (.type "BaseException") = some true) && (PySem.W.hasDictIn K (He.ga K x) && (He.eqO (PySem.W.findIn K (.ref (He.ga K x)) "__class__") (some (some (.builtin "object.__class__"))) &&
  (He.eqO (PySem.W.specialIn K (.builtin "object.__class__") "__get__") (some (some (.builtin "getset_descriptor.__get__"))) && (decide (PySem.W.takesIn K (.builtin "object.__class__") = some true) && decide (PySem.W.mroIn K (He.ga K x) (.type "object") = some true)))))))
theorem excB_ok {x : Str} {K : Fg} (h : excB x K = true) : ExcC K (He.ga K x) := by
  unfold excB at h
  simp only [Bool.and_eq_true] at h
  obtain ⟨h1, h2, h3, h4, h5, h6, h7, h8⟩ := h
  exact ⟨He.eqO_ok h1, He.eqO_ok h2, of_decide_eq_true h3, h4, He.eqO_ok h5, He.eqO_ok h6, of_decide_eq_true h7, of_decide_eq_true h8⟩
def bs0 : List (Fg → Bool) := [Hk.lowB fileS "BadPlace" "place", fun K => xfB K (He.ga K "BadPlace"), fun K => He.eqO (PySem.W.findIn K (.ref (He.ga K "BadPlace")) "place") (some none), Hk.lowB fileS "BadSize" "size", fun K => xfB K (He.ga K "BadSize"), fun K => He.eqO (PySem.W.findIn K (.ref (He.ga K "BadSize")) "size") (some none), Hk.lowB fileS "BadNumber" "number", fun K => xfB K (He.ga K "BadNumber"), fun K => He.eqO (PySem.W.findIn K (.ref (He.ga K "BadNumber")) "number") (some none), Hk.lowB fileS "BadTolls" "place", fun K => xfB K (He.ga K "BadTolls"), fun K => He.eqO (PySem.W.findIn K (.ref (He.ga K "BadTolls")) "place") (some none), Hk.lowB fileS "BadPlan" "place", fun K => xfB K (He.ga K "BadPlan"), fun K => He.eqO (PySem.W.findIn K (.ref (He.ga K "BadPlan")) "place") (some none), excB "BadTolls", fun K => decide (PySem.W.kitOne K (.ref (He.ga K "BadTolls")) (.ref (He.ga K "TiedError")) = some true), fun K => decide (PySem.W.kitAny K (.ref (He.ga K "BadTolls")) [.ref (He.ga K "BadPlace"), .ref (He.ga K "BadPlan"), .ref (He.ga K "BadNumber"), .ref (He.ga K "BadSize")] = some false)]
def bs : List (Fg → Bool) := bs0
def ls : List PySem.Str := ["BadPlace", "BadSize", "BadNumber", "BadTolls", "BadPlan"]
def vs : List Hk.LowT := [Hk.lowV (inClass (top 2) 0), Hk.lowV (inClass (top 3) 0), Hk.lowV (inClass (top 4) 0), Hk.lowV (inClass (top 5) 0), Hk.lowV (inClass (top 6) 0)]
abbrev hk : PySem.W.Hook := Hk.hookX 4 fa fn bs ls vs
def ob_ (s : PySem.W.SharedT) : Hk.AlX := Hk.obsXG 4 fa fn bs ls (HandSHeadRun.getT s)
theorem ob_eq (s : PySem.W.SharedT) : ob_ s = hk.obs s.abs := Hk.obsXG_eq (HandSHeadRun.getT_eq s)
theorem run (w : World) : HandSHeadRun.RunEq R (PySem.W.view R.prog [63]) hk ob_ 6000 loose w := by
  intro os
  kernel_rfl
theorem low_BadPlace {K : Fg} (c : Hk.SaysX fa fn bs ls vs K) : ∃ fI fd a1, Xi.Low1 R.prog K (He.ga K "BadPlace") fI fd "place" a1 :=
  Hk.low_of (a1 := "place") (st := (inClass (top 2) 0)) (file := fileS) (c.l 0 (x := "BadPlace") rfl rfl) (c.b 0 (b := Hk.lowB fileS "BadPlace" "place") rfl) rfl (by decide +kernel) rfl (by rfl) rfl rfl rfl (by decide +kernel) rfl rfl rfl rfl ⟨_, rfl, rfl⟩ (by decide) (by decide)
    (fun fd h1 h2 h3 h4 s a b => by
      obtain ⟨n1, n2, n3, n4, n5, n6, n7, n8, n9, n10, n11, n12, n13, n14, n15⟩ := fd
      dsimp only at h1 h2 h3 h4
      subst h1 h2 h3 h4
      exact .of_eq (by rfl))
theorem low_BadSize {K : Fg} (c : Hk.SaysX fa fn bs ls vs K) : ∃ fI fd a1, Xi.Low1 R.prog K (He.ga K "BadSize") fI fd "size" a1 :=
  Hk.low_of (a1 := "size") (st := (inClass (top 3) 0)) (file := fileS) (c.l 1 (x := "BadSize") rfl rfl) (c.b 3 (b := Hk.lowB fileS "BadSize" "size") rfl) rfl (by decide +kernel) rfl (by rfl) rfl rfl rfl (by decide +kernel) rfl rfl rfl rfl ⟨_, rfl, rfl⟩ (by decide) (by decide)
    (fun fd h1 h2 h3 h4 s a b => by
      obtain ⟨n1, n2, n3, n4, n5, n6, n7, n8, n9, n10, n11, n12, n13, n14, n15⟩ := fd
      dsimp only at h1 h2 h3 h4
      subst h1 h2 h3 h4
      exact .of_eq (by rfl))
theorem low_BadNumber {K : Fg} (c : Hk.SaysX fa fn bs ls vs K) : ∃ fI fd a1, Xi.Low1 R.prog K (He.ga K "BadNumber") fI fd "number" a1 :=
  Hk.low_of (a1 := "number") (st := (inClass (top 4) 0)) (file := fileS) (c.l 2 (x := "BadNumber") rfl rfl) (c.b 6 (b := Hk.lowB fileS "BadNumber" "number") rfl) rfl (by decide +kernel) rfl (by rfl) rfl rfl rfl (by decide +kernel) rfl rfl rfl rfl ⟨_, rfl, rfl⟩ (by decide) (by decide)
    (fun fd h1 h2 h3 h4 s a b => by
      obtain ⟨n1, n2, n3, n4, n5, n6, n7, n8, n9, n10, n11, n12, n13, n14, n15⟩ := fd
      dsimp only at h1 h2 h3 h4
      subst h1 h2 h3 h4
      exact .of_eq (by rfl))
theorem low_BadTolls {K : Fg} (c : Hk.SaysX fa fn bs ls vs K) : ∃ fI fd a1, Xi.Low1 R.prog K (He.ga K "BadTolls") fI fd "place" a1 :=
  Hk.low_of (a1 := "place") (st := (inClass (top 5) 0)) (file := fileS) (c.l 3 (x := "BadTolls") rfl rfl) (c.b 9 (b := Hk.lowB fileS "BadTolls" "place") rfl) rfl (by decide +kernel) rfl (by rfl) rfl rfl rfl (by decide +kernel) rfl rfl rfl rfl ⟨_, rfl, rfl⟩ (by decide) (by decide)
    (fun fd h1 h2 h3 h4 s a b => by
      obtain ⟨n1, n2, n3, n4, n5, n6, n7, n8, n9, n10, n11, n12, n13, n14, n15⟩ := fd
      dsimp only at h1 h2 h3 h4
      subst h1 h2 h3 h4
      exact .of_eq (by rfl))
theorem low_BadPlan {K : Fg} (c : Hk.SaysX fa fn bs ls vs K) : ∃ fI fd a1, Xi.Low1 R.prog K (He.ga K "BadPlan") fI fd "place" a1 :=
  Hk.low_of (a1 := "place") (st := (inClass (top 6) 0)) (file := fileS) (c.l 4 (x := "BadPlan") rfl rfl) (c.b 12 (b := Hk.lowB fileS "BadPlan" "place") rfl) rfl (by decide +kernel) rfl (by rfl) rfl rfl rfl (by decide +kernel) rfl rfl rfl rfl ⟨_, rfl, rfl⟩ (by decide) (by decide)
    (fun fd h1 h2 h3 h4 s a b => by
      obtain ⟨n1, n2, n3, n4, n5, n6, n7, n8, n9, n10, n11, n12, n13, n14, n15⟩ := fd
      dsimp only at h1 h2 h3 h4
      subst h1 h2 h3 h4
      exact .of_eq (by rfl))
theorem tx_of {K : Fg} {h : Heap} {mg : Str → Option Value} (X : K.In h) (G : h.Ns mainGlobals mg) (c : Hk.SaysX fa fn bs ls vs K) : Tx R.prog K mg where
  b_abs := He.free_ok X G (c.d.fact 48 (f := .free "abs") rfl)
  b_all := He.free_ok X G (c.d.fact 49 (f := .free "all") rfl)
  b_bool := He.free_ok X G (c.d.fact 50 (f := .free "bool") rfl)
  b_enumerate := He.free_ok X G (c.d.fact 51 (f := .free "enumerate") rfl)
  b_int := He.free_ok X G (c.d.fact 52 (f := .free "int") rfl)
  b_isinstance := He.free_ok X G (c.d.fact 53 (f := .free "isinstance") rfl)
  b_len := He.free_ok X G (c.d.fact 54 (f := .free "len") rfl)
  b_list := He.free_ok X G (c.d.fact 55 (f := .free "list") rfl)
  b_min := He.free_ok X G (c.d.fact 56 (f := .free "min") rfl)
  b_range := He.free_ok X G (c.d.fact 57 (f := .free "range") rfl)
  b_set := He.free_ok X G (c.d.fact 58 (f := .free "set") rfl)
  b_sorted := He.free_ok X G (c.d.fact 59 (f := .free "sorted") rfl)
  b_sum := He.free_ok X G (c.d.fact 60 (f := .free "sum") rfl)
  b_tuple := He.free_ok X G (c.d.fact 61 (f := .free "tuple") rfl)
  c_HOME := He.int_ok X G (c.d.fact 62 (f := .int "HOME" (-1)) rfl)
  c_MOST := He.int_ok X G (c.d.fact 63 (f := .int "MOST" (16)) rfl)
  c_MOST_TOLL := He.int_ok X G (c.d.fact 64 (f := .int "MOST_TOLL" (1000000)) rfl)
  f_check_places := c.d.def_ 0 (d := d_check_places) rfl
  m_check_places := He.glo_ok X G (c.d.fact 0 (f := .glo "check_places") rfl)
  f_lies_in := c.d.def_ 1 (d := d_lies_in) rfl
  m_lies_in := He.glo_ok X G (c.d.fact 1 (f := .glo "lies_in") rfl)
  f_is_end := c.d.def_ 2 (d := d_is_end) rfl
  m_is_end := He.glo_ok X G (c.d.fact 2 (f := .glo "is_end") rfl)
  f_ends_outside := c.d.def_ 3 (d := d_ends_outside) rfl
  m_ends_outside := He.glo_ok X G (c.d.fact 3 (f := .glo "ends_outside") rfl)
  f_is_toll_row := c.d.def_ 4 (d := d_is_toll_row) rfl
  m_is_toll_row := He.glo_ok X G (c.d.fact 4 (f := .glo "is_toll_row") rfl)
  f_check_tolls := c.d.def_ 5 (d := d_check_tolls) rfl
  m_check_tolls := He.glo_ok X G (c.d.fact 5 (f := .glo "check_tolls") rfl)
  f_check_road := c.d.def_ 6 (d := d_check_road) rfl
  m_check_road := He.glo_ok X G (c.d.fact 6 (f := .glo "check_road") rfl)
  f_toll_of := c.d.def_ 7 (d := d_toll_of) rfl
  m_toll_of := He.glo_ok X G (c.d.fact 7 (f := .glo "toll_of") rfl)
  f_with_toll := c.d.def_ 8 (d := d_with_toll) rfl
  m_with_toll := He.glo_ok X G (c.d.fact 8 (f := .glo "with_toll") rfl)
  f_is_part := c.d.def_ 9 (d := d_is_part) rfl
  m_is_part := He.glo_ok X G (c.d.fact 9 (f := .glo "is_part") rfl)
  f_charged := c.d.def_ 10 (d := d_charged) rfl
  m_charged := He.glo_ok X G (c.d.fact 10 (f := .glo "charged") rfl)
  f_bill_holds := c.d.def_ 11 (d := d_bill_holds) rfl
  m_bill_holds := He.glo_ok X G (c.d.fact 11 (f := .glo "bill_holds") rfl)
  f_end_of := c.d.def_ 12 (d := d_end_of) rfl
  m_end_of := He.glo_ok X G (c.d.fact 12 (f := .glo "end_of") rfl)
  f_plan_ends := c.d.def_ 13 (d := d_plan_ends) rfl
  m_plan_ends := He.glo_ok X G (c.d.fact 13 (f := .glo "plan_ends") rfl)
  f_shut_in := c.d.def_ 14 (d := d_shut_in) rfl
  m_shut_in := He.glo_ok X G (c.d.fact 14 (f := .glo "shut_in") rfl)
  f_plan_price := c.d.def_ 15 (d := d_plan_price) rfl
  m_plan_price := He.glo_ok X G (c.d.fact 15 (f := .glo "plan_price") rfl)
  f__law_start := c.d.def_ 16 (d := d__law_start) rfl
  m__law_start := He.glo_ok X G (c.d.fact 16 (f := .glo "_law_start") rfl)
  f__law_draw := c.d.def_ 17 (d := d__law_draw) rfl
  m__law_draw := He.glo_ok X G (c.d.fact 17 (f := .glo "_law_draw") rfl)
  f__law_size := c.d.def_ 18 (d := d__law_size) rfl
  m__law_size := He.glo_ok X G (c.d.fact 18 (f := .glo "_law_size") rfl)
  f__law_set := c.d.def_ 19 (d := d__law_set) rfl
  m__law_set := He.glo_ok X G (c.d.fact 19 (f := .glo "_law_set") rfl)
  f__law_order := c.d.def_ 20 (d := d__law_order) rfl
  m__law_order := He.glo_ok X G (c.d.fact 20 (f := .glo "_law_order") rfl)
  f__law_whole := c.d.def_ 21 (d := d__law_whole) rfl
  m__law_whole := He.glo_ok X G (c.d.fact 21 (f := .glo "_law_whole") rfl)
  f__law_same_row := c.d.def_ 22 (d := d__law_same_row) rfl
  m__law_same_row := He.glo_ok X G (c.d.fact 22 (f := .glo "_law_same_row") rfl)
  f__law_same_rows := c.d.def_ 23 (d := d__law_same_rows) rfl
  m__law_same_rows := He.glo_ok X G (c.d.fact 23 (f := .glo "_law_same_rows") rfl)
  f__law_copy := c.d.def_ 24 (d := d__law_copy) rfl
  m__law_copy := He.glo_ok X G (c.d.fact 24 (f := .glo "_law_copy") rfl)
  f__law_tolls := c.d.def_ 25 (d := d__law_tolls) rfl
  m__law_tolls := He.glo_ok X G (c.d.fact 25 (f := .glo "_law_tolls") rfl)
  f__law_bent_tolls := c.d.def_ 26 (d := d__law_bent_tolls) rfl
  m__law_bent_tolls := He.glo_ok X G (c.d.fact 26 (f := .glo "_law_bent_tolls") rfl)
  f__law_wrong_row := c.d.def_ 27 (d := d__law_wrong_row) rfl
  m__law_wrong_row := He.glo_ok X G (c.d.fact 27 (f := .glo "_law_wrong_row") rfl)
  f__law_table_told := c.d.def_ 28 (d := d__law_table_told) rfl
  m__law_table_told := He.glo_ok X G (c.d.fact 28 (f := .glo "_law_table_told") rfl)
  f__law_tables_right := c.d.def_ 29 (d := d__law_tables_right) rfl
  m__law_tables_right := He.glo_ok X G (c.d.fact 29 (f := .glo "_law_tables_right") rfl)
  f__law_road_due := c.d.def_ 30 (d := d__law_road_due) rfl
  m__law_road_due := He.glo_ok X G (c.d.fact 30 (f := .glo "_law_road_due") rfl)
  f__law_road_told := c.d.def_ 31 (d := d__law_road_told) rfl
  m__law_road_told := He.glo_ok X G (c.d.fact 31 (f := .glo "_law_road_told") rfl)
  f__law_changed_told := c.d.def_ 32 (d := d__law_changed_told) rfl
  m__law_changed_told := He.glo_ok X G (c.d.fact 32 (f := .glo "_law_changed_told") rfl)
  f__law_number := c.d.def_ 33 (d := d__law_number) rfl
  m__law_number := He.glo_ok X G (c.d.fact 33 (f := .glo "_law_number") rfl)
  f__law_roads_right := c.d.def_ 34 (d := d__law_roads_right) rfl
  m__law_roads_right := He.glo_ok X G (c.d.fact 34 (f := .glo "_law_roads_right") rfl)
  f__law_end := c.d.def_ 35 (d := d__law_end) rfl
  m__law_end := He.glo_ok X G (c.d.fact 35 (f := .glo "_law_end") rfl)
  f__law_plan := c.d.def_ 36 (d := d__law_plan) rfl
  m__law_plan := He.glo_ok X G (c.d.fact 36 (f := .glo "_law_plan") rfl)
  f__law_bent_plan := c.d.def_ 37 (d := d__law_bent_plan) rfl
  m__law_bent_plan := He.glo_ok X G (c.d.fact 37 (f := .glo "_law_bent_plan") rfl)
  f__law_wrong_in_plan := c.d.def_ 38 (d := d__law_wrong_in_plan) rfl
  m__law_wrong_in_plan := He.glo_ok X G (c.d.fact 38 (f := .glo "_law_wrong_in_plan") rfl)
  f__law_plan_told := c.d.def_ 39 (d := d__law_plan_told) rfl
  m__law_plan_told := He.glo_ok X G (c.d.fact 39 (f := .glo "_law_plan_told") rfl)
  f__law_plans_right := c.d.def_ 40 (d := d__law_plans_right) rfl
  m__law_plans_right := He.glo_ok X G (c.d.fact 40 (f := .glo "_law_plans_right") rfl)
  f__law_borne := c.d.def_ 41 (d := d__law_borne) rfl
  m__law_borne := He.glo_ok X G (c.d.fact 41 (f := .glo "_law_borne") rfl)
  f__law_parts := c.d.def_ 42 (d := d__law_parts) rfl
  m__law_parts := He.glo_ok X G (c.d.fact 42 (f := .glo "_law_parts") rfl)
  f__law_bent_parts := c.d.def_ 43 (d := d__law_bent_parts) rfl
  m__law_bent_parts := He.glo_ok X G (c.d.fact 43 (f := .glo "_law_bent_parts") rfl)
  f__law_holds := c.d.def_ 44 (d := d__law_holds) rfl
  m__law_holds := He.glo_ok X G (c.d.fact 44 (f := .glo "_law_holds") rfl)
  f__law_bill_told := c.d.def_ 45 (d := d__law_bill_told) rfl
  m__law_bill_told := He.glo_ok X G (c.d.fact 45 (f := .glo "_law_bill_told") rfl)
  f__law_bills_right := c.d.def_ 46 (d := d__law_bills_right) rfl
  m__law_bills_right := He.glo_ok X G (c.d.fact 46 (f := .glo "_law_bills_right") rfl)
  f_law := c.d.def_ 47 (d := d_law) rfl
  m_law := He.glo_ok X G (c.d.fact 47 (f := .glo "law") rfl)
  g_TiedError := He.glo_ok X G (c.d.fact 65 (f := .glo "TiedError") rfl)
  g_BadPlace := He.glo_ok X G (c.d.fact 66 (f := .glo "BadPlace") rfl)
  xf_BadPlace := xfB_ok (c.b 1 (b := fun K => xfB K (He.ga K "BadPlace")) rfl)
  no_BadPlace := He.eqO_ok (c.b 2 (b := fun K => He.eqO (PySem.W.findIn K (.ref (He.ga K "BadPlace")) "place") (some none)) rfl)
  x_BadPlace_BadNumber := He.exm_ok (c.d.fact 71 (f := .exm "BadPlace" "BadNumber" false) rfl)
  x_BadPlace_BadPlace := He.exm_ok (c.d.fact 72 (f := .exm "BadPlace" "BadPlace" true) rfl)
  x_BadPlace_BadPlan := He.exm_ok (c.d.fact 73 (f := .exm "BadPlace" "BadPlan" false) rfl)
  x_BadPlace_BadSize := He.exm_ok (c.d.fact 74 (f := .exm "BadPlace" "BadSize" false) rfl)
  x_BadPlace_BadTolls := He.exm_ok (c.d.fact 75 (f := .exm "BadPlace" "BadTolls" false) rfl)
  x_BadPlace_TiedError := He.exm_ok (c.d.fact 76 (f := .exm "BadPlace" "TiedError" true) rfl)
  BadPlace := ⟨He.glo_ok X G (c.d.fact 66 (f := .glo "BadPlace") rfl), low_BadPlace c⟩
  g_BadSize := He.glo_ok X G (c.d.fact 67 (f := .glo "BadSize") rfl)
  xf_BadSize := xfB_ok (c.b 4 (b := fun K => xfB K (He.ga K "BadSize")) rfl)
  no_BadSize := He.eqO_ok (c.b 5 (b := fun K => He.eqO (PySem.W.findIn K (.ref (He.ga K "BadSize")) "size") (some none)) rfl)
  x_BadSize_BadNumber := He.exm_ok (c.d.fact 77 (f := .exm "BadSize" "BadNumber" false) rfl)
  x_BadSize_BadPlace := He.exm_ok (c.d.fact 78 (f := .exm "BadSize" "BadPlace" false) rfl)
  x_BadSize_BadPlan := He.exm_ok (c.d.fact 79 (f := .exm "BadSize" "BadPlan" false) rfl)
  x_BadSize_BadSize := He.exm_ok (c.d.fact 80 (f := .exm "BadSize" "BadSize" true) rfl)
  x_BadSize_BadTolls := He.exm_ok (c.d.fact 81 (f := .exm "BadSize" "BadTolls" false) rfl)
  x_BadSize_TiedError := He.exm_ok (c.d.fact 82 (f := .exm "BadSize" "TiedError" true) rfl)
  BadSize := ⟨He.glo_ok X G (c.d.fact 67 (f := .glo "BadSize") rfl), low_BadSize c⟩
  g_BadNumber := He.glo_ok X G (c.d.fact 68 (f := .glo "BadNumber") rfl)
  xf_BadNumber := xfB_ok (c.b 7 (b := fun K => xfB K (He.ga K "BadNumber")) rfl)
  no_BadNumber := He.eqO_ok (c.b 8 (b := fun K => He.eqO (PySem.W.findIn K (.ref (He.ga K "BadNumber")) "number") (some none)) rfl)
  x_BadNumber_BadNumber := He.exm_ok (c.d.fact 83 (f := .exm "BadNumber" "BadNumber" true) rfl)
  x_BadNumber_BadPlace := He.exm_ok (c.d.fact 84 (f := .exm "BadNumber" "BadPlace" false) rfl)
  x_BadNumber_BadPlan := He.exm_ok (c.d.fact 85 (f := .exm "BadNumber" "BadPlan" false) rfl)
  x_BadNumber_BadSize := He.exm_ok (c.d.fact 86 (f := .exm "BadNumber" "BadSize" false) rfl)
  x_BadNumber_BadTolls := He.exm_ok (c.d.fact 87 (f := .exm "BadNumber" "BadTolls" false) rfl)
  x_BadNumber_TiedError := He.exm_ok (c.d.fact 88 (f := .exm "BadNumber" "TiedError" true) rfl)
  BadNumber := ⟨He.glo_ok X G (c.d.fact 68 (f := .glo "BadNumber") rfl), low_BadNumber c⟩
  g_BadTolls := He.glo_ok X G (c.d.fact 69 (f := .glo "BadTolls") rfl)
  xf_BadTolls := xfB_ok (c.b 10 (b := fun K => xfB K (He.ga K "BadTolls")) rfl)
  no_BadTolls := He.eqO_ok (c.b 11 (b := fun K => He.eqO (PySem.W.findIn K (.ref (He.ga K "BadTolls")) "place") (some none)) rfl)
  x_BadTolls_BadNumber := He.exm_ok (c.d.fact 89 (f := .exm "BadTolls" "BadNumber" false) rfl)
  x_BadTolls_BadPlace := He.exm_ok (c.d.fact 90 (f := .exm "BadTolls" "BadPlace" false) rfl)
  x_BadTolls_BadPlan := He.exm_ok (c.d.fact 91 (f := .exm "BadTolls" "BadPlan" false) rfl)
  x_BadTolls_BadSize := He.exm_ok (c.d.fact 92 (f := .exm "BadTolls" "BadSize" false) rfl)
  x_BadTolls_BadTolls := He.exm_ok (c.d.fact 93 (f := .exm "BadTolls" "BadTolls" true) rfl)
  x_BadTolls_TiedError := He.exm_ok (c.d.fact 94 (f := .exm "BadTolls" "TiedError" true) rfl)
  BadTolls := ⟨He.glo_ok X G (c.d.fact 69 (f := .glo "BadTolls") rfl), low_BadTolls c⟩
  g_BadPlan := He.glo_ok X G (c.d.fact 70 (f := .glo "BadPlan") rfl)
  xf_BadPlan := xfB_ok (c.b 13 (b := fun K => xfB K (He.ga K "BadPlan")) rfl)
  no_BadPlan := He.eqO_ok (c.b 14 (b := fun K => He.eqO (PySem.W.findIn K (.ref (He.ga K "BadPlan")) "place") (some none)) rfl)
  x_BadPlan_BadNumber := He.exm_ok (c.d.fact 95 (f := .exm "BadPlan" "BadNumber" false) rfl)
  x_BadPlan_BadPlace := He.exm_ok (c.d.fact 96 (f := .exm "BadPlan" "BadPlace" false) rfl)
  x_BadPlan_BadPlan := He.exm_ok (c.d.fact 97 (f := .exm "BadPlan" "BadPlan" true) rfl)
  x_BadPlan_BadSize := He.exm_ok (c.d.fact 98 (f := .exm "BadPlan" "BadSize" false) rfl)
  x_BadPlan_BadTolls := He.exm_ok (c.d.fact 99 (f := .exm "BadPlan" "BadTolls" false) rfl)
  x_BadPlan_TiedError := He.exm_ok (c.d.fact 100 (f := .exm "BadPlan" "TiedError" true) rfl)
  BadPlan := ⟨He.glo_ok X G (c.d.fact 70 (f := .glo "BadPlan") rfl), low_BadPlan c⟩
  ec_BadTolls := excB_ok (c.b 15 (b := excB "BadTolls") rfl)
  k_BadTolls_TiedError := of_decide_eq_true (c.b 16 (b := fun K => decide (PySem.W.kitOne K (.ref (He.ga K "BadTolls")) (.ref (He.ga K "TiedError")) = some true)) rfl)
  kt_BadTolls := of_decide_eq_true (c.b 17 (b := fun K => decide (PySem.W.kitAny K (.ref (He.ga K "BadTolls")) [.ref (He.ga K "BadPlace"), .ref (He.ga K "BadPlan"), .ref (He.ga K "BadNumber"), .ref (He.ga K "BadSize")] = some false)) rfl)
theorem law0 {P : Program} {w : World} {K : Fg} {mg : Str → Option Value} {base : Heap} {k : Nat} {f : Addr} {fd : FuncData} {ps : List Str} {sp : Sp} (F : FnOk P w K mg base (L2.CX P w) k f fd ps sp) (he : ∀ vs H Q E, sp vs H Q E → sp vs H Q E0) : FnOk P w K mg base CX0 k f fd ps sp :=
  ⟨F.len, fun A outer s H args us vs Q E hr e hb hv h => codeAny_mono (F.run A outer s H args us vs Q E0 hr e hb hv (he _ _ _ _ h)) fun r s' q => by
    cases r with
    | error e => obtain ⟨_, _, _, _, _, _, _, _, _, _, _, _, z⟩ := q; exact z.elim
    | ok fl => cases fl <;> exact q⟩
theorem facts (plain : ∀ ns : List Int, ns.length ≤ 63 → m_law ns = some true) {w : World} {K : Fg} {h : Heap} {mg : Str → Option Value} {f : Addr} (X : K.In h) (G : h.Ns mainGlobals mg) (hfa : mg ("law" : Str) = some (.ref f)) (c : Hk.SaysX fa fn bs ls vs K) :
    ∃ fd : FuncData, (∀ (s : Shared) (v : Value), BindsTo s fd ⟨[v], []⟩ [("script", v)]) ∧ ∀ base : Heap, K.In base → base.Ns mainGlobals mg → FnOk R.prog w K mg base CX0 8 f fd ["script"] (p_law K) := by
  have T := tx_of X G c
  obtain ⟨fd, F⟩ := T.f_law
  have e := hfa.symm.trans T.m_law
  cases e
  have b := FunD.bindsA (ps := ["script"]) F fun _ _ _ _ _ _ us hl => match us, hl with | [_], _ => rfl
  refine ⟨fd, fun s v => b s [v] rfl, fun base _ _ => law0 (ok_law T F) fun vs H Q E h => h⟩
end G
open PySem PySem.W PySem.Calls PyProof.Rows
theorem holds_of (plain : ∀ ns : List Int, ns.length ≤ 63 → G.m_law ns = some true) : PySem.Challenge.rw_ringfolk_k27_plans_and_bills.Holds := by
  w_on; o_law
  refine HandSHeadRun.head_any (r := G.R) (q := view G.R.prog [63]) (H := G.hk) (ob := G.ob_)
    (M := 6000) (loose := G.loose) (d := HandSHeadRun.topDef G.R.prog 63) (kwd := []) G.ob_eq (by kernel_rfl)
    (fun s => by kernel_rfl) G.run (by kernel_rfl) (by kernel_rfl) (by kernel_rfl) (by rfl)
    (by first | assumption | decide +kernel) (by decide +kernel) ⟨rfl, rfl, rfl, rfl, rfl, by decide +kernel⟩ ?hw ?hc
  case hw => w_witness2
  case hc =>
    refine L2.walk_ofE (l := PySem.Challenge.rw_ringfolk_k27_plans_and_bills) (n := 63) (k := 8) (x := "script")
      (CX := L2.CX0) rfl (by decide) (by kernel_rfl) ⟨by decide, by decide, by decide⟩ ?F (fun _ _ _ _ z => z)
    intro w mg fa h Y Gl hmg0
    obtain ⟨K, KX, c⟩ := Y
    have hmg : mg ("law" : PySem.Str) = some (.ref fa) := by
      have e : (HandSHeadRun.topDef G.R.prog 63).name = ("law" : PySem.Str) := by kernel_rfl
      rw [← e]; exact hmg0
    obtain ⟨fd, hb, hF⟩ := G.facts plain (w := w) KX Gl hmg c
    refine ⟨K, fd, G.p_law K, KX, hb, fun H a ns hl _ hS => ?_, hF⟩
    exact ⟨ns, true, H, .cons ⟨a, rfl, hS⟩ .nil, L2.Same.refl _, plain ns hl, fun v B' H' _ _ hv => hv⟩

theorem PySem.Challenge.cw_ringfolk_k27_plans_and_bills_holds : PySem.Challenge.rw_ringfolk_k27_plans_and_bills.Holds := by
  exact holds_of (fun ns _ => M.plain ns)
