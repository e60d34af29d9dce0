import PyProof.Rows.All
import Wide.All
import OpenK.AllK
import Wide.FinOn
import KE.KExcSuper
import HandS.ForExc
import HandS.ExcInit
import HandS.ForMost
import HandS.Deep
import HandS.IsInst
import HandS.Conv
import HandS.SortInts
import HandS.Defaults
import HandS.HeadHook2
import HandS.WordsExc
import HandS.Set
import HandS.SetFor
import HandS.Strs
import HandS.Style
import HandS.ExcOwn
import HandS.ExcField
import HandS.ExcIs
import KE.SortData
import HandS.Star
import HandS.TupSets
import HandS.Words
import KE.KStateDown
import HandS.Head0
import HandS.Head1
import HandS.Head2
import HandS.HeadEnd
import HandS.HeadHook1
import PySem.Challenge.RW_ringfolk_k00_arrows_and_first_moves
/-! Xi -/
set_option Elab.async false
set_option linter.all false
set_option maxRecDepth 100000
set_option maxHeartbeats 2000000
namespace Xi
open PySem PySem.W PySem.Calls PyProof.Rows

/-- what the written part says of the __init__ of an own error class below an own base: super().__init__(text) -/
structure LowI (P : Program) (K : Frag) (C fI : Addr) (fd : FuncData) : Prop where
  cls : ∃ nm q N bs bm sn sub ab col dd k0 k1 k2 k3 k5, K.lookup C = some (excClassObj nm q C N bs bm true sn sub ab col dd k0 k1 k2 k3 k5 "ValueError.__new__") ∧ HandSPX.refsVE bm = true
  fn : ∃ oc od osl, K.lookup fI = some ⟨oc, od, .func fd, osl⟩
  code : codeIn K fd.code fd.qualname = true
  clo : ∃ cc cl cld csl, fd.closure = [(("__class__" : Str), cc)] ∧ K.lookup cc = some ⟨cl, cld, .cell (some (.ref C)), csl⟩
  glo : fd.globals = mainGlobals
  blt : fd.builtins = builtinsNs
  file : ∃ cda ccl cdd vs ccs file tf, fd.code = .ref cda ∧ K.lookup cda = some ⟨ccl, cdd, .fields vs, ccs⟩ ∧ vs[2]? = some (.str file tf) ∧ ((P.main.file : Str) == file) = true
  top : (P.main.scope.names.lookup ("super" : Str)).isSome = false
  sup : nsIn K mainGlobals "super" = some none
  opq : nsIn K cStatics "thirdparty.any" = some none
  mro : mroIn K C (.ref C) = some true
  sin : ks_superIn K C C "__init__" = some (some (.builtin "ValueError.__init__"))
  sub : subIn K (.ref C) (.type "ValueError") = some true
  exi : excInitIn K C HandSPX.veTail "ValueError.__new__" = true
  kind : fd.scope.kind = .function
  co : fd.scope.isCoroutine = false
  gen : fd.scope.isGenerator = false
  noc : ∀ x ∈ fd.scope.names, x.2 ≠ .cell
  ks : fd.scope.names.lookup ("super" : Str) = some .globalImplicit
  kc : fd.scope.names.lookup ("__class__" : Str) = some .free
  kself : fd.scope.names.lookup ("self" : Str) = some .local
  ar : ∃ ar, (fd.params.posonlyargs ++ fd.params.args).head? = some ar ∧ ar.arg = "self"

theorem super_call {o : Expr} {msg name : Str} {j : Nat} {p2 p3 p4 : Pos} {env : Env} (hpos : (p2.endLine == p4.line) = true) :
    eval (.Call (.Attribute o name p2) [.Constant (.str msg) j p3] [] p4) env = (do
      let ov ← attributeBase o name env (eval o env)
      standAt p2.atName
      let (f, first) ← holding [ov] (getMethod ov name (do return (← importBound o env).getD true))
      callWith p4 f first (backTo p4 (starEach [.Constant (.str msg) j p3] env)) []) := by
  show (do let ov ← attributeBase o name env (eval o env); standAt p2.atName; methodCall o name p2 p4 env ov 1 (backTo p4 (starEach [.Constant (.str msg) j p3] env)) []) = _
  have hp : ∀ few : Bool, methodCallPos few o env p2 p4 = pure p4 := fun few => by
    unfold methodCallPos
    rw [hpos, Bool.or_true]
    rfl
  unfold methodCall
  simp only [hp, pure_bind]
  rfl
section
variable {P : Program} {w : World} {K : Frag} {C fI e t0 : Addr} {fd : FuncData}
theorem super_stmt (T : LowI P K C fI fd) {A : Around} {body : List Stmt} {msg : Str} {j : Nat} {p0 p1 p2 p3 p4 p5 : Pos} {L : Addr} {m mg mb : Str → Option Value} {h : Heap} {g : Array GenState} {d : Drawn} {tk : Nat} {os : OsState} {Q : Flow → Shared → Prop} {E : Value → Shared → Prop}
    (hpos : (p2.endLine == p4.line) = true) (X : K.In h) (G : h.Ns mainGlobals mg) (B : h.Ns builtinsNs mb) (hb : ∀ x : Str, x ≠ "__name__" → mb x = bootBuiltins x) (hn : h.Ns L m) (hs : m "self" = some (.ref e)) (he : h.get? e = some (HandSPX.excO C t0))
    (hq : ∀ h' t1 tk', (∀ b o, b ≠ e → h.get? b = some o → h'.get? b = some o) → h'.get? e = some (HandSPX.excO C t1) → Q .next ⟨h', g, d, tk', os⟩) :
    _root_.PySem.wpAt (model P w) A (.func body (callEnv fd L fI)) (exec (.Expr (.Call (.Attribute (.Call (.Name "super" p0) [] [] p1) "__init__" p2) [.Constant (.str msg) j p3] [] p4) p5) (callEnv fd L fI)) Q E ⟨h, g, d, tk, os⟩ := by
  obtain ⟨cc, cl, cld, csl, ecl, hcc⟩ := T.clo
  obtain ⟨oc, od, osl, hf⟩ := T.fn
  obtain ⟨cda, ccl, cdd, vs, ccs, file, tf, ecd, hcd, hvs, hfile⟩ := T.file
  obtain ⟨ar, har, earg⟩ := T.ar
  obtain ⟨nm, q, N, bs, bm, sn, sub, ab, col, dd, k0, k1', k2, k3, k5, hC, hbm⟩ := T.cls
  obtain ⟨cdC, hcC⟩ : ∃ cd, clsIn K C = some cd := by unfold clsIn; rw [hC]; exact ⟨_, rfl⟩
  obtain ⟨oD, hD1, hD2⟩ : ∃ oD, h.get? C = some oD ∧ oD.data = .cls cdC := by
    unfold clsIn at hcC
    split at hcC
    · rename_i c' d' cd' sl ho
      cases hcC
      exact ⟨_, X _ _ ho, rfl⟩
    · cases hcC
  have I : InstAt h e (HandSPX.excO C t0) C none := ⟨he, rfl, rfl, trivial⟩
  have hk : (callEnv fd L fI).scope.kind = .function := T.kind
  have hks : (callEnv fd L fI).kindOf "super" = some .globalImplicit := T.ks
  have hkc : (callEnv fd L fI).kindOf "__class__" = some .free := T.kc
  have hka : (callEnv fd L fI).kindOf "self" = some .local := T.kself
  have hgl : (callEnv fd L fI).globals = mainGlobals := T.glo
  have hbl : (callEnv fd L fI).builtins = builtinsNs := T.blt
  have hcell : (callEnv fd L fI).cells.lookup ("__class__" : Str) = some cc := by
    show fd.closure.lookup _ = _
    rw [ecl]
    rfl
  refine ks_wpAt_Expr_any ?_ (by simp [interactive, hk]) rfl
  refine ks_wpAt_MethodCall ?_ (super_call hpos)
  refine ks_wpAt_super_base (f := fI) (cc := cda) hks hkc (by decide) rfl (X _ _ hf) rfl har ecd (X _ _ hcd) rfl hvs hfile T.top ?_
  refine ks_loadName_global hk hks (loadGlobal_builtin (by rw [hgl]; exact G) (mg_none_of X G T.sup) (by rw [hbl]; exact B) ((hb _ (by decide +kernel)).trans (by first | boot_by_name | rfl | kernel_rfl)) ⟨rfl, ?_⟩)
  refine wpAny_loadName_free hk hkc hcell ⟨_, X _ _ hcc, rfl⟩ ?_
  rw [earg]
  refine wpAny_loadName_local hk hka hn hs ?_
  refine ks_wpAny_isType_cls hD1 hD2 ⟨rfl, ?_⟩
  refine ks_wpAny_call_super hD1 hD2 he rfl (fun c z => by cases z) (looks_mroIn X T.mro) (fun h1 hso k1 => ?_)
  have X1 : K.In h1 := X.keeps k1
  have he1 := k1 _ _ he
  have I1 : InstAt h1 e (HandSPX.excO C t0) C none := ⟨he1, rfl, rfl, trivial⟩
  have hm := T.sin
  unfold ks_superIn at hm
  rw [hcC] at hm
  refine kxs_getMethod kxs_ValueError hso (looks_opaque X1 T.opq) (l₀ := cdC.mro) (fun A Q E s k q => wpAny_bind ((looks_clsIn X1 hcC) A _ E s k (wpAny_pure q))) rfl X1 hm (I1.type.andThen (looks_subIn X1 T.sub)) (ks_ne X1 I1 hcC) (by decide) ?_
  refine kxs_callWith (i := "ValueError.__init__") (x := e) rfl (evalArgs_plain (spliced_cons (Constant_str (k := j) (pos := p3) (spliced_nil ⟨Heap.get?_push_at rfl rfl, ?_⟩))))
  have hCX : ∀ {hh : Heap}, K.In hh → hh.get? C = some (excClassObj nm q C N bs bm true sn sub ab col dd k0 k1' k2 k3 k5 "ValueError.__new__") := fun X => X _ _ hC
  refine wpAny_call (codeAny_of_tree (?_ : wpAny _ A.in1 (callAny (.ref _) ⟨_, []⟩) _ _ _))
  have hu : (h1.push (kxs_mw "ValueError.__init__" e)).get? h1.objs.size = some (kxs_mw "ValueError.__init__" e) := Heap.get?_push_at rfl rfl
  have he2 : (h1.push (kxs_mw "ValueError.__init__" e)).get? e = some (HandSPX.excO C t0) := Heap.get?_push_of_some _ he1
  have X2 : K.In (h1.push (kxs_mw "ValueError.__init__" e)) := X1.keeps fun b o z => Heap.get?_push_of_some _ z
  simp only [callAny]
  refine wpAny_bind (wpAny_load hu ?_); simp only [kxs_mw, show (Value.type "method-wrapper" == Value.type "method" || Value.type "method-wrapper" == Value.type "builtin_function_or_method" || Value.type "method-wrapper" == Value.type "method-wrapper") = true from by decide, if_true]
  refine KFB.if_so (by decide) (wpAny_bind (check_bound_init F.excBase_ValueError.toExcCallFacts (hCX X2) he2 rfl ?_))
  refine wpAny_bind (wpAny_pure (wpAny_pure ⟨plainId_quiet F.excBase_ValueError.init.plain _, codeAny_builtin F.excBase_ValueError.initEntry ?_⟩))
  rw [Around.under_plainId F.excBase_ValueError.init.plain _]
  refine exc_init_tree (cls := .ref C) (t0 := t0) (dv := none) (c2 := .none) (c3 := .none) (b4 := .bool false) he2 (by rw [sizeLine_eq]; show 1 ≤ _; omega) fun h' k e' t' => hq h' _ _ (fun b o hb z => k b o hb (Heap.get?_push_of_some _ (k1 _ _ z))) e'

/-- the fields that are stored: one, two -/
theorem low_init {f1 a1 msg : Str} {j : Nat} {p0 p1 p2 p3 p4 p5 q0 q1 q2 q3 : Pos} (T : LowI P K C fI fd) (hbody : fd.body = .stmts [.Expr (.Call (.Attribute (.Call (.Name "super" p0) [] [] p1) "__init__" p2) [.Constant (.str msg) j p3] [] p4) p5, .Assign [.Attribute (.Name "self" q0) f1 q1] (.Name a1 q2) q3])
    (hpos : (p2.endLine == p4.line) = true) (ka : fd.scope.names.lookup a1 = some .local) (hsa : a1 ≠ "self") (hd : (a1 == ("__debug__" : Str)) = false) (sa : findIn K (.ref C) "__setattr__" = some (some (.builtin "object.__setattr__"))) (hf1 : findIn K (.ref C) f1 = some none)
    {A : Around} {u : Value} {mg mb : Str → Option Value} {h : Heap} {g : Array GenState} {d : Drawn} {tk : Nat} {os : OsState} {R : Result → Shared → Prop}
    (hKe : ∀ o, K.lookup e ≠ some o) (hroom : A.depth < recursionLimit) (hbind : ∀ s, BindsTo s fd ⟨[.ref e, u], []⟩ [("self", .ref e), (a1, u)]) (lim : h.NoLimit)
    (X : K.In h) (G : h.Ns mainGlobals mg) (B : h.Ns builtinsNs mb) (hb : ∀ x : Str, x ≠ "__name__" → mb x = bootBuiltins x) (he : h.get? e = some (HandSPX.excO C t0))
    (hq : ∀ h' t1 dx tk', (∀ b o, b ≠ e → h.get? b = some o → h'.get? b = some o) → h.objs.size ≤ dx → dx ≠ e → h'.get? e = some { cls := .ref C, dict := some dx, data := .fields #[.ref t1, .none, .none, .none, .bool false, .none] } →
      h'.Ns1 dx (fun y => if y = f1 then some u else none) → R (.ok (.ret .none)) ⟨h', g, d, tk', os⟩) :
    codeAny (model P w) A (.call (.ref fI) ⟨[.ref e, u], []⟩) R ⟨h, g, d, tk, os⟩ := by
  obtain ⟨oc, od, osl, hf⟩ := T.fn
  obtain ⟨nm, q, N, bs, bm, sn, sub, ab, col, dd, k0, k1', k2, k3, k5, hC, hbm⟩ := T.cls
  have hcl : clsIn K C = some { name := nm, bases := bs, mro := .ref C :: bm, ns := N, qualname := q, hasDict := true, slotNames := sn, subclasses := sub, abstract := ab, collection := col, hasDel := false } := by unfold clsIn; rw [hC] <;> rfl
  have hloc : ∀ x ∈ [(("self" : Str), Value.ref e), (a1, u)], fd.scope.names.lookup x.1 = some .local := by
    intro x hx
    rcases List.mem_cons.mp hx with rfl | hx
    · exact T.kself
    · rcases List.mem_cons.mp hx with rfl | hx
      · exact ka
      · cases hx
  refine ks_codeAny_call_defAt hroom (X _ _ hf) rfl lim (codeRec_of X T.code) hbody (hbind _) T.noc hloc (fun h0 hn0 k0' => ?_) T.co T.gen T.kind
  have X0 : K.In h0 := X.keeps k0'
  have he0 := k0' _ _ he
  have hns : (fun x => [(("self" : Str), Value.ref e), (a1, u)].reverse.lookup x) ("self" : Str) = some (.ref e) := by
    show List.lookup ("self" : Str) [(a1, u), (("self" : Str), Value.ref e)] = _
    have hne : (("self" : Str) == a1) = false := by simpa using (Ne.symm hsa)
    simp [List.lookup, hne]
  have hna : (fun x => [(("self" : Str), Value.ref e), (a1, u)].reverse.lookup x) a1 = some u := by
    show List.lookup a1 [(a1, u), (("self" : Str), Value.ref e)] = _
    simp [List.lookup]
  have hLe : h.objs.size ≠ e := fun z => by
    have y := Heap.lt_size he
    rw [← z] at y
    exact absurd y (Nat.lt_irrefl _)
  refine ks_wpAt_execs_cons (super_stmt T hpos X0 (G.keeps k0') (B.keeps k0') hb hn0 hns he0 fun h2 t1 tk2 k2' he2 => ?_)
  have kk : ∀ b o, b ≠ e → h.get? b = some o → h2.get? b = some o := fun b o hb z => k2' b o hb (k0' b o z)
  have X2 : K.In h2 := fun b o z => kk b o (fun y => hKe o (by rw [← y]; exact z)) (X _ _ z)
  have hn2 : h2.Ns h.objs.size (fun x => [(("self" : Str), Value.ref e), (a1, u)].reverse.lookup x) := hn0.at fun o z => k2' _ o hLe z
  have hk : (callEnv fd h.objs.size fI).scope.kind = .function := T.kind
  refine ks_wpAt_execs_cons (_root_.PySem.wpAt_of_wpAny (plainObj_wpAny_Assign_Attribute (wpAny_Name (wpAny_loadName_local hk (show (callEnv fd h.objs.size fI).kindOf a1 = some .local from ka) hn2 hna (wpAny_Name (wpAny_loadName_local hk (show (callEnv fd h.objs.size fI).kindOf "self" = some .local from T.kself) hn2 hns ?_) (by decide))) hd) rfl))
  refine set_plain X2 (ox := HandSPX.excO C t1) (od := none) ⟨he2, rfl, rfl, trivial⟩ sa (HandSPX.exc_osa X2 he2 hcl (show HandSPX.refsVE (.ref C :: bm) = true from hbm) rfl hf1 fun h3 tk3 dx k3' dn dne hx hnx => ?_)
  refine _root_.PySem.wpAt_of_wpAny (wpAny_execs_nil (hq h3 t1 dx tk3 (fun b o hb z => k3' b o hb (kk b o hb z)) ?_ dne hx hnx))
  cases z : h2.get? h.objs.size with
  | none =>
    obtain ⟨o, es, ep, ho, _⟩ := hn2
    rw [z] at ho
    cases ho
  | some o => exact Nat.le_of_lt (Nat.lt_of_lt_of_le (Heap.lt_size z) dn)
end
end Xi

namespace Xi
open PySem PySem.Spec L2
/-- what the written part says of such a class with one field -/
structure Low1 (P : Program) (K : PySem.W.Frag) (C fI : Addr) (fd : FuncData) (f1 a1 : Str) : Prop where
  low : LowI P K C fI fd
  body : ∃ (msg : Str) (j : Nat) (p0 p1 p2 p3 p4 p5 q0 q1 q2 q3 : Pos), fd.body = .stmts [.Expr (.Call (.Attribute (.Call (.Name "super" p0) [] [] p1) "__init__" p2) [.Constant (.str msg) j p3] [] p4) p5, .Assign [.Attribute (.Name "self" q0) f1 q1] (.Name a1 q2) q3] ∧ (p2.endLine == p4.line) = true
  ka : fd.scope.names.lookup a1 = some .local
  hsa : a1 ≠ "self"
  hd : (a1 == ("__debug__" : Str)) = false
  sa : PySem.W.findIn K (.ref C) "__setattr__" = some (some (.builtin "object.__setattr__"))
  hf : PySem.W.findIn K (.ref C) f1 = some none
  bind : ∀ (s : Shared) (a b : Value), BindsTo s fd ⟨[a, b], []⟩ [("self", a), (a1, b)]
  init : PySem.W.findIn K (.ref C) "__init__" = some (some (.ref fI))
  tI : PySem.W.typeIn K (.ref fI) = some (.type "function")
  exC : PySem.W.subIn K (.ref C) (.type "BaseException") = some true
  tyC : PySem.W.typeIn K (.ref C) = some (.type "type")
  kC : PySem.W.keepIn K (.ref C) = true
section
variable {X : Cx} {e : Expr} {te : TE} {f1 a1 x : Str} {p pos : Pos} {C fI : Addr} {fd : FuncData}
/-- the new error as it stands behind its __init__ -/
theorem un_low {fs : List Addr} {H : Hp} {hp h3 : Heap} {a dx t1 : Addr} {f : Str} {y : V} {u : Value} {P : Program} {w : World} (hok : HOk P w H hp) (ea : H a = some (exo a C none)) (k : ∀ b o, b ≠ a → hp.get? b = some o → h3.get? b = some o)
    (dn : hp.objs.size ≤ dx) (dne : dx ≠ a) (hx : h3.get? a = some { cls := .ref C, dict := some dx, data := .fields #[.ref t1, .none, .none, .none, .bool false, .none] }) (hn : h3.Ns1 dx (fun z => if z = f then some u else none)) (ry : RelV y u) :
    Un fs [] H (upd (upd H dx (exd dx [(f, y)])) a (exo a C (some dx))) hp h3 ∧ HOk P w (upd (upd H dx (exd dx [(f, y)])) a (exo a C (some dx))) h3 := by
  have hnd : H dx = none := hok.fresh dn
  have nd : ∀ {b : Addr} {o : Obj}, hp.get? b = some o → b ≠ dx := fun q => Nat.ne_of_lt (Nat.lt_of_lt_of_le (Heap.lt_size q) dn)
  have na : ∀ {b : Addr}, H b = none → b ≠ a := fun n z => by rw [z, ea] at n; cases n
  refine ⟨⟨fun b o q n _ _ => k b o (na n) q, fun b o q n _ _ => ⟨o.slots, k b o (na n) q⟩, fun b o q n _ => by rw [upd_ne (na n), upd_ne (nd q)]; exact n, fun b o q _ => ?_, fun b xs q => ?_, fun b o v q => ?_, fun b ps q => ?_⟩, fun b o q => ?_⟩
  · rcases Decidable.em (b = a) with hb | hb
    · exact ⟨_, by rw [hb]; exact hx⟩
    · exact ⟨o, k b o hb q⟩
  · rw [upd_ne (at_ne ea q exo_tup), upd_ne (ne_of_none q hnd)]; exact q
  · rw [upd_ne (at_ne ea q exo_frz), upd_ne (ne_of_none q hnd)]; exact q
  · exact ⟨#[], by rw [upd_ne (at_ne ea q exo_tbl), upd_ne (ne_of_none q hnd), q]; simp⟩
  · rcases Decidable.em (b = a) with hb | hb
    · subst hb
      rw [upd_same] at q; cases q
      exact exo_ok hx
    · rw [upd_ne hb] at q
      rcases Decidable.em (b = dx) with hd | hd
      · subst hd
        rw [upd_same] at q; cases q
        exact exd_ok hn (relO_put (fs := []) ry fun _ => trivial)
      · rw [upd_ne hd] at q
        refine (hok b o q).stay (fun c v hc z => k c v ?_ z) (fun c hc => ?_) (fun c xs hc => ?_)
        · rcases hc with hc | hc
          · rw [hc]; exact hb
          · exact at_ne ea hc exo_own
        · rw [upd_ne (at_ne ea hc exo_own), upd_ne (ne_of_none hc hnd)]; exact hc
        · rw [upd_ne (at_ne ea hc exo_tup), upd_ne (ne_of_none hc hnd)]; exact hc
def tLow (C : Addr) (f1 : Str) (ta : TA) : L2.St → Hp → XK → Prop := fun σ H Q => ta σ H fun vs H1 => ∃ v, vs = [v] ∧ ∀ d, H1 d = none → Q (.ref C) (some d) (upd H1 d (.xd [(f1, v)]))
theorem pmk_low {k : Nat} {ta : TA} (T : Low1 X.prog X.K C fI fd f1 a1) (hr : Room (k + 1) X.A) (hg : Gl X x) (hm : X.mg x = some (.ref C)) (ha : PA X [e] ta) (hdb : (x == ("__debug__" : Str)) = false := by decide)
    (he : starEach [e] X.env = (false, eval e X.env) :: starEach [] X.env := by rfl) (hpl : (backTo pos (starEach [] X.env)).any (·.1) = false := by rfl) : PMk X (.Call (.Name x p) [e] [] pos) (tLow C f1 ta) := by
  intro pins s σ H Q I h
  obtain ⟨nm, q, N, bs, bm, sn, sub, ab, col, dd, k0, k1, k2, k3, k5, hC, hbm⟩ := T.low.cls
  obtain ⟨msg, j, p0, p1, p2, p3, p4, p5, q0, q1, q2, q3, hbd, hpos⟩ := T.body
  refine wpAny_Call_Name_kw (ld_glob I hg hm ?_ hdb)
  refine PySem.W.callWith_K (h₀ := X.base) I.ok.mod.kin T.kC (thn (ha.run pos pins s σ H _ I h) fun us s1 ⟨vs, H1, I1, r1, v, ev, hq⟩ => ⟨I1.kIn, ?_⟩) he hpl
  subst ev
  obtain ⟨u, rfl, rv⟩ : ∃ u, us = [u] ∧ RelV v u := by
    cases r1 with
    | cons ra rb => cases rb; exact ⟨_, rfl, ra⟩
  obtain ⟨mb, B, hb⟩ := I1.mod.blt
  obtain ⟨hp, g, dr, tk, os⟩ := s1
  have hsz : hp.objs.size ≤ hp.objs.size + 1 := Nat.le_succ _
  have kk : ∀ b o, hp.get? b = some o → ((hp.push (PySem.W.kdv_tup [u])).push (HandSPX.excO C hp.objs.size)).get? b = some o := fun b o z => Heap.get?_push_of_some _ (Heap.get?_push_of_some _ z)
  have hget : ((hp.push (PySem.W.kdv_tup [u])).push (HandSPX.excO C hp.objs.size)).get? (hp.objs.size + 1) = some (HandSPX.excO C hp.objs.size) := by heap_get
  have I2 : Inv X pins σ (upd H1 (hp.objs.size + 1) (exo (hp.objs.size + 1) C none)) ⟨(hp.push (PySem.W.kdv_tup [u])).push (HandSPX.excO C hp.objs.size), g, dr, tk, os⟩ := I1.laid (t' := tk) kk hsz (exo_ok hget)
  have hne : hp.get? (hp.objs.size + 1) = none := by
    cases z : hp.get? (hp.objs.size + 1) with
    | none => rfl
    | some o => exact absurd (Heap.lt_size z) (Nat.not_lt.mpr hsz)
  have hn : H1 (hp.objs.size + 1) = none := I1.hok.fresh hsz
  refine wpAny_call (HandSPX.call_own F.excBase_ValueError (fun Y => HandSPX.refsVE_contains Y bm hbm) (I1.kIn _ _ hC) (PySem.W.looks_findIn I1.kIn T.init) (fun self => PySem.W.bind_fn I1.kIn self T.tI) (by rw [sizeLine_eq]; show 1 ≤ _; omega)
    (low_init T.low hbd hpos T.ka T.hsa T.hd T.sa T.hf (fun o z => ?_) (hr.make C [u] []).depth (fun s => T.bind s _ _) I2.nolimit I2.kIn (I2.mod.glob.keeps I2.bk) (B.keeps I2.bk) hb hget (fun h' t1 dx tk' k' dn dne hx hnx => ?_)))
  · have z' := I1.kIn _ _ z
    rw [hne] at z'; cases z'
  · have hsz2 : hp.objs.size ≤ ((hp.push (PySem.W.kdv_tup [u])).push (HandSPX.excO C hp.objs.size)).objs.size := Nat.le_of_lt (Nat.lt_of_le_of_lt hsz (Heap.lt_size hget))
    obtain ⟨un, hok⟩ := un_low (fs := frs X.stack) I2.hok upd_same k' dn dne hx hnx rv
    have h1d : H1 dx = none := I1.hok.fresh (Nat.le_trans hsz2 dn)
    have fin := mk_end (Q := Q) (g2 := g) (d2 := dr) (t2 := tk') (os2 := os) (fs := [(f1, v)]) (raises_own T.exC T.tyC) I1 hsz kk un hok rfl I2.bare upd_same (by rw [upd_ne dne, upd_same]) h1d
    refine ⟨rfl, fin ?_⟩
    have e1 : upd (del (upd (upd (upd H1 (hp.objs.size + 1) (exo (hp.objs.size + 1) C none)) dx (exd dx [(f1, v)])) (hp.objs.size + 1) (exo (hp.objs.size + 1) C (some dx))) (hp.objs.size + 1)) dx (.xd [(f1, v)]) = upd H1 dx (.xd [(f1, v)]) := by
      funext b
      rcases Decidable.em (b = dx) with hb | hb
      · rw [hb, upd_same, upd_same]
      · rw [upd_ne hb, upd_ne hb]
        rcases Decidable.em (b = hp.objs.size + 1) with hc | hc
        · rw [hc, del_same, hn]
        · rw [del_ne hc, upd_ne hc, upd_ne hb, upd_ne hc]
    rw [e1]
    exact hq dx h1d
end
end Xi

/-! Dl -/
set_option Elab.async false
set_option linter.all false
set_option maxRecDepth 100000
set_option maxHeartbeats 2000000
namespace Dl
open PySem PySem.Spec L2
abbrev Fg := PySem.W.Frag
/-- what may be changed in place -/
def isM : HO → Bool
  | .tup _ => false
  | .frz _ _ => false
  | .tbl _ => false
  | .xd _ => false
  | .rng _ _ => false
  | .ext _ => false
  | _ => true
theorem pmap {α β : Type} {F G : α → β → Prop} : ∀ {l : List α} {m : List β}, Paired F l m → (∀ a b, F a b → G a b) → Paired G l m
  | _, _, .nil, _ => .nil
  | _, _, .cons q t, k => .cons (k _ _ q) (pmap t k)
/-! ### readings of values as data -/
structure Rl (α : Type) where
  r : Fg → Hp → V → α → Prop
  f : Fg → Hp → Hp → V → α → Prop
  mono : ∀ {K : Fg} {B B' : Hp} {v : V} {a : α}, Same B B' → r K B v a → r K B' v a
  fr : ∀ {K : Fg} {H B : Hp} {v : V} {a : α}, f K H B v a → r K B v a
  ftr : ∀ {K : Fg} {H B B2 : Hp} {v : V} {x : α}, (∀ a o, B a = some o → (isM o = false ∨ H a = none) → B2 a = some o) → f K H B v x → f K H B2 v x
  fanti : ∀ {K : Fg} {H H0 B : Hp} {v : V} {x : α}, (∀ a, H0 a ≠ none → H a ≠ none) → f K H B v x → f K H0 B v x
def Imm {α : Type} (R : Rl α) : Prop := ∀ (K : Fg) (H B : Hp) (v : V) (x : α), R.r K B v x → R.f K H B v x
def flat {α : Type} (g : V → α → Prop) : Rl α := ⟨fun _ _ v a => g v a, fun _ _ _ v a => g v a, fun _ h => h, fun h => h, fun _ h => h, fun _ h => h⟩
theorem imm_flat {α : Type} (g : V → α → Prop) : Imm (flat g) := fun _ _ _ _ _ h => h
def rInt : Rl Int := flat fun v i => v = .int i
def rBool : Rl Bool := flat fun v b => v = .bl b
def rUnit : Rl Unit := flat fun v _ => v = .non
def rStr : Rl Str := flat fun v s => v = .str s
theorem sqt_mono {K : Fg} {B B' : Hp} {p : Addr} {vs : List V} (h : ∀ u, (∃ xs, u = HO.tup xs) ∨ (∃ o w, u = HO.frz o w) → B p = some u → B' p = some u) (q : SqT K B p vs) : SqT K B' p vs := by
  rcases q with (q | ⟨o, q⟩) | q
  · exact .inl (.inl (h _ (.inl ⟨_, rfl⟩) q))
  · exact .inl (.inr ⟨o, h _ (.inr ⟨_, _, rfl⟩) q⟩)
  · exact .inr q
theorem sqt_same {K : Fg} {B B' : Hp} {p : Addr} {vs : List V} (e : Same B B') (q : SqT K B p vs) : SqT K B' p vs := sqt_mono (fun _ _ h => e _ _ h) q
theorem sqt_tr {K : Fg} {H B B2 : Hp} {p : Addr} {vs : List V} (e : ∀ a o, B a = some o → (isM o = false ∨ H a = none) → B2 a = some o) (q : SqT K B p vs) : SqT K B2 p vs := by
  refine sqt_mono (fun u hu h => e _ _ h (.inl ?_)) q
  rcases hu with ⟨xs, rfl⟩ | ⟨o, w, rfl⟩ <;> rfl
/-- a tuple of any length, all of one kind -/
def rTpl {α : Type} (R : Rl α) : Rl (List α) where
  r K B v xs := ∃ p vs, v = .ref p ∧ SqT K B p vs ∧ Paired (R.r K B) vs xs
  f K H B v xs := ∃ p vs, v = .ref p ∧ SqT K B p vs ∧ Paired (R.f K H B) vs xs
  mono e h := let ⟨p, vs, a, b, c⟩ := h; ⟨p, vs, a, sqt_same e b, pmap c fun _ _ q => R.mono e q⟩
  fr h := let ⟨p, vs, a, b, c⟩ := h; ⟨p, vs, a, b, pmap c fun _ _ q => R.fr q⟩
  ftr e h := let ⟨p, vs, a, b, c⟩ := h; ⟨p, vs, a, sqt_tr e b, pmap c fun _ _ q => R.ftr e q⟩
  fanti e h := let ⟨p, vs, a, b, c⟩ := h; ⟨p, vs, a, b, pmap c fun _ _ q => R.fanti e q⟩
def rLst {α : Type} (R : Rl α) : Rl (List α) where
  r K B v xs := ∃ p vs, v = .ref p ∧ B p = some (.lst vs) ∧ Paired (R.r K B) vs xs
  f K H B v xs := ∃ p vs, v = .ref p ∧ H p = none ∧ B p = some (.lst vs) ∧ Paired (R.f K H B) vs xs
  mono e h := let ⟨p, vs, a, b, c⟩ := h; ⟨p, vs, a, e _ _ b, pmap c fun _ _ q => R.mono e q⟩
  fr h := let ⟨p, vs, a, _, b, c⟩ := h; ⟨p, vs, a, b, pmap c fun _ _ q => R.fr q⟩
  ftr e h := let ⟨p, vs, a, n, b, c⟩ := h; ⟨p, vs, a, n, e _ _ b (.inr n), pmap c fun _ _ q => R.ftr e q⟩
  fanti {K H H0 B v x} e h := let ⟨p, vs, a, n, b, c⟩ := h; ⟨p, vs, a, (by
    cases z : H0 p with
    | none => rfl
    | some o => exact absurd n (e p (by rw [z]; exact fun q => nomatch q))), b, pmap c fun _ _ q => R.fanti e q⟩
/-- a pair, a triple -/
def rT2 {α β : Type} (R : Rl α) (S : Rl β) : Rl (α × β) where
  r K B v x := ∃ p v1 v2, v = .ref p ∧ SqT K B p [v1, v2] ∧ R.r K B v1 x.1 ∧ S.r K B v2 x.2
  f K H B v x := ∃ p v1 v2, v = .ref p ∧ SqT K B p [v1, v2] ∧ R.f K H B v1 x.1 ∧ S.f K H B v2 x.2
  mono e h := let ⟨p, v1, v2, a, b, c, d⟩ := h; ⟨p, v1, v2, a, sqt_same e b, R.mono e c, S.mono e d⟩
  fr h := let ⟨p, v1, v2, a, b, c, d⟩ := h; ⟨p, v1, v2, a, b, R.fr c, S.fr d⟩
  ftr e h := let ⟨p, v1, v2, a, b, c, d⟩ := h; ⟨p, v1, v2, a, sqt_tr e b, R.ftr e c, S.ftr e d⟩
  fanti e h := let ⟨p, v1, v2, a, b, c, d⟩ := h; ⟨p, v1, v2, a, b, R.fanti e c, S.fanti e d⟩
def rT3 {α β γ : Type} (R : Rl α) (S : Rl β) (T : Rl γ) : Rl (α × β × γ) where
  r K B v x := ∃ p v1 v2 v3, v = .ref p ∧ SqT K B p [v1, v2, v3] ∧ R.r K B v1 x.1 ∧ S.r K B v2 x.2.1 ∧ T.r K B v3 x.2.2
  f K H B v x := ∃ p v1 v2 v3, v = .ref p ∧ SqT K B p [v1, v2, v3] ∧ R.f K H B v1 x.1 ∧ S.f K H B v2 x.2.1 ∧ T.f K H B v3 x.2.2
  mono e h := let ⟨p, v1, v2, v3, a, b, c, d, g⟩ := h; ⟨p, v1, v2, v3, a, sqt_same e b, R.mono e c, S.mono e d, T.mono e g⟩
  fr h := let ⟨p, v1, v2, v3, a, b, c, d, g⟩ := h; ⟨p, v1, v2, v3, a, b, R.fr c, S.fr d, T.fr g⟩
  ftr e h := let ⟨p, v1, v2, v3, a, b, c, d, g⟩ := h; ⟨p, v1, v2, v3, a, sqt_tr e b, R.ftr e c, S.ftr e d, T.ftr e g⟩
  fanti e h := let ⟨p, v1, v2, v3, a, b, c, d, g⟩ := h; ⟨p, v1, v2, v3, a, b, R.fanti e c, S.fanti e d, T.fanti e g⟩
/-- None, or a thing -/
def rOpt {α : Type} (R : Rl α) : Rl (Option α) where
  r K B v x := match x with | none => v = .non | some a => R.r K B v a
  f K H B v x := match x with | none => v = .non | some a => R.f K H B v a
  mono {K B B' v x} e h := by cases x with | none => exact h | some a => exact R.mono e h
  fr {K H B v x} h := by cases x with | none => exact h | some a => exact R.fr h
  ftr {K H B B2 v x} e h := by cases x with | none => exact h | some a => exact R.ftr e h
  fanti {K H H0 B v x} e h := by cases x with | none => exact h | some a => exact R.fanti e h
theorem imm_tpl {α : Type} {R : Rl α} (i : Imm R) : Imm (rTpl R) := fun _ _ _ _ _ ⟨p, vs, a, b, c⟩ => ⟨p, vs, a, b, pmap c fun _ _ q => i _ _ _ _ _ q⟩
theorem imm_T2 {α β : Type} {R : Rl α} {S : Rl β} (i : Imm R) (j : Imm S) : Imm (rT2 R S) := fun _ _ _ _ _ ⟨p, v1, v2, a, b, c, d⟩ => ⟨p, v1, v2, a, b, i _ _ _ _ _ c, j _ _ _ _ _ d⟩
theorem imm_T3 {α β γ : Type} {R : Rl α} {S : Rl β} {T : Rl γ} (i : Imm R) (j : Imm S) (k : Imm T) : Imm (rT3 R S T) := fun _ _ _ _ _ ⟨p, v1, v2, v3, a, b, c, d, e⟩ => ⟨p, v1, v2, v3, a, b, i _ _ _ _ _ c, j _ _ _ _ _ d, k _ _ _ _ _ e⟩
theorem imm_Opt {α : Type} {R : Rl α} (i : Imm R) : Imm (rOpt R) := fun K H B v x h => by cases x with | none => exact h | some a => exact i _ _ _ _ _ h

/-! ### where one stands -/
structure Ct where
  K : Fg
  H0 : Hp
  B0 : Hp
  k0 : List Addr
  Hs : Hp
abbrev Ct.at (c : Ct) (H : Hp) : Ct := ⟨c.K, c.H0, c.B0, c.k0, H⟩
structure Stp (ks : List Addr) (B H B' H' : Hp) : Prop where
  up : Same B B'
  old : ∀ a, H a ≠ none → B' a = B a
  keep : ∀ a o, H a = some o → a ∉ ks → H' a = some o
  tr : ∀ a, H a ≠ none → H' a ≠ none
theorem Stp.refl {ks : List Addr} {B H : Hp} : Stp ks B H B H := ⟨fun _ _ h => h, fun _ _ => rfl, fun _ _ h _ => h, fun _ h => h⟩
theorem Stp.trans {ks : List Addr} {B H B1 H1 B2 H2 : Hp} (a : Stp ks B H B1 H1) (b : Stp ks B1 H1 B2 H2) : Stp ks B H B2 H2 :=
  ⟨a.up.trans b.up, fun x h => (b.old x (a.tr x h)).trans (a.old x h), fun x o h n => b.keep x o (a.keep x o h n) n, fun x h => b.tr x (a.tr x h)⟩
/-- what is said of an object that is held apart -/
structure Cs where
  p : Hp → HO → Prop
  mono : ∀ {B B' : Hp} {o : HO}, Same B B' → p B o → p B' o
/-- a list -/
def CL {α : Type} (R : Rl α) (K : Fg) (xs : List α) : Cs := ⟨fun B o => ∃ vs, o = .lst vs ∧ Paired (R.r K B) vs xs, fun e h => let ⟨vs, a, b⟩ := h; ⟨vs, a, pmap b fun _ _ q => R.mono e q⟩⟩
/-- the cells that are held apart -/
def Cel (B H : Hp) (ks : List Addr) (os : List Cs) : Prop := Paired (fun (a : Addr) (s : Cs) => ∃ o, H a = some o ∧ B a = none ∧ isM o = true ∧ s.p B o) ks os
structure Wd (c : Ct) (B H : Hp) (ks : List Addr) (os : List Cs) : Prop where
  ex : Same B H
  nd : ks.Nodup
  cell : Cel B H ks os
  own : ∀ a ∈ ks, a ∈ c.k0 ∨ c.H0 a = none
  st : Stp c.k0 c.B0 c.H0 B H
  hs : ∀ a, c.Hs a ≠ none → H a ≠ none
theorem Wd.at {c : Ct} {B H : Hp} {ks : List Addr} {os : List Cs} (w : Wd c B H ks os) : Wd (c.at H) B H ks os := ⟨w.ex, w.nd, w.cell, w.own, w.st, fun _ h => h⟩
theorem Wd.un {c : Ct} {B H B2 H2 : Hp} {ks ks2 : List Addr} {os os2 : List Cs} (w0 : Wd c B H ks os) (w : Wd (c.at H) B2 H2 ks2 os2) : Wd c B2 H2 ks2 os2 := ⟨w.ex, w.nd, w.cell, w.own, w.st, fun a h => w.hs a (w0.hs a h)⟩
theorem Cel.off {B H : Hp} : ∀ {ks : List Addr} {os : List Cs}, Cel B H ks os → ∀ a ∈ ks, B a = none ∧ ∃ o, H a = some o ∧ isM o = true
  | _, _, .nil, _, h => nomatch h
  | _, _, .cons q t, a, h => by
    obtain ⟨o, q1, q2, q3, _⟩ := q
    rcases List.mem_cons.mp h with rfl | h
    · exact ⟨q2, o, q1, q3⟩
    · exact Cel.off t a h
theorem Cel.get {B H : Hp} : ∀ {ks : List Addr} {os : List Cs} {i : Nat} {a : Addr} {s : Cs}, Cel B H ks os → ks[i]? = some a → os[i]? = some s → ∃ o, H a = some o ∧ B a = none ∧ isM o = true ∧ s.p B o
  | _, _, _, _, _, .nil, h, _ => by simp at h
  | _, _, 0, _, _, .cons q _, h, h2 => by simp at h h2; subst h; subst h2; exact q
  | _, _, i + 1, _, _, .cons _ t, h, h2 => Cel.get (i := i) t (by simpa using h) (by simpa using h2)
theorem Wd.off {c : Ct} {B H : Hp} {ks : List Addr} {os : List Cs} (w : Wd c B H ks os) {a : Addr} (h : a ∈ ks) : B a = none := (w.cell.off a h).1
theorem Wd.tr {c : Ct} {B H : Hp} {ks : List Addr} {os : List Cs} (w : Wd c B H ks os) : ∀ a, c.H0 a ≠ none → H a ≠ none := w.st.tr
theorem Wd.new0 {c : Ct} {B H : Hp} {ks : List Addr} {os : List Cs} (w : Wd c B H ks os) {p : Addr} (n : H p = none) : c.H0 p = none := by
  cases z : c.H0 p with
  | none => rfl
  | some o => exact absurd n (w.tr p (by rw [z]; exact fun q => nomatch q))
theorem Wd.news {c : Ct} {B H : Hp} {ks : List Addr} {os : List Cs} (w : Wd c B H ks os) {p : Addr} (n : H p = none) : c.Hs p = none := by
  cases z : c.Hs p with
  | none => rfl
  | some o => exact absurd n (w.hs p (by rw [z]; exact fun q => nomatch q))
/-- the pure part, the cells laid over it -/
def expo (ks : List Addr) (H B : Hp) : Hp := fun a => if a ∈ ks then H a else B a
theorem expo_in {ks : List Addr} {H B : Hp} {a : Addr} (h : a ∈ ks) : expo ks H B a = H a := if_pos h
theorem expo_off {ks : List Addr} {H B : Hp} {a : Addr} (h : a ∉ ks) : expo ks H B a = B a := if_neg h
theorem expo_same {c : Ct} {B H : Hp} {ks : List Addr} {os : List Cs} (w : Wd c B H ks os) {ks' : List Addr} (hs : ∀ a ∈ ks', a ∈ ks) : Same B (expo ks' H B) := fun a o h => by
  rw [expo_off (fun m => by rw [w.off (hs a m)] at h; cases h)]
  exact h
theorem expo_to {c : Ct} {B H : Hp} {ks : List Addr} {os : List Cs} (w : Wd c B H ks os) (ks' : List Addr) : Same (expo ks' H B) H := fun a o h => by
  by_cases m : a ∈ ks'
  · rw [expo_in m] at h
    exact h
  · rw [expo_off m] at h
    exact w.ex a o h
/-- something new, laid into the pure part -/
theorem Wd.new {c : Ct} {B H : Hp} {ks : List Addr} {os : List Cs} (w : Wd c B H ks os) {p : Addr} (n : H p = none) (o : HO) : Same B (upd B p o) ∧ Wd c (upd B p o) (upd H p o) ks os := by
  have up : Same B (upd B p o) := fun a u h => by rw [upd_ne (ne_of_none (w.ex a u h) n)]; exact h
  refine ⟨up, ⟨fun a u h => ?_, w.nd, ?_, w.own, ?_, fun a h => by rw [upd_ne (fun e => w.hs a h (by rw [e]; exact n))]; exact w.hs a h⟩⟩
  · by_cases e : a = p
    · rw [e, upd_same] at h ⊢; exact h
    · rw [upd_ne e] at h ⊢; exact w.ex a u h
  · refine pmap w.cell fun a s ⟨u, q1, q2, q3, q4⟩ => ?_
    have e : a ≠ p := ne_of_none q1 n
    exact ⟨u, by rw [upd_ne e]; exact q1, by rw [upd_ne e]; exact q2, q3, s.mono up q4⟩
  · refine w.st.trans ⟨up, fun a h => ?_, fun a u h _ => ?_, fun a h => ?_⟩
    · exact upd_ne (fun e => h (by rw [e]; exact n))
    · rw [upd_ne (ne_of_none h n)]; exact h
    · rw [upd_ne (fun e => h (by rw [e]; exact n))]; exact h
theorem pset2 {F G : Addr → Cs → Prop} : ∀ {ks : List Addr} {os : List Cs} (i : Nat) {q : Addr} {s : Cs}, ks.Nodup → Paired F ks os → ks[i]? = some q → (∀ a u, a ≠ q → F a u → G a u) → G q s → Paired G ks (os.set i s)
  | _, _, _, _, _, _, .nil, h, _, _ => by simp at h
  | k :: ks, _ :: os, 0, q, s, nd, .cons _ t, h, k1, k2 => by
    simp at h; subst h
    rw [List.nodup_cons] at nd
    refine .cons k2 ?_
    have : ∀ {ks : List Addr} {os : List Cs}, k ∉ ks → Paired F ks os → Paired G ks os := by
      intro ks os n t
      induction t with
      | nil => exact .nil
      | cons a b ih =>
        rw [List.mem_cons, not_or] at n
        exact .cons (k1 _ _ (fun z => n.1 z.symm) a) (ih n.2)
    exact this nd.1 t
  | k :: ks, _ :: os, i + 1, q, s, nd, .cons a t, h, k1, k2 => by
    rw [List.nodup_cons] at nd
    have hq : ks[i]? = some q := by simpa using h
    exact .cons (k1 _ _ (fun z => nd.1 (by rw [z]; exact List.mem_of_getElem? hq)) a) (pset2 i nd.2 t hq k1 k2)
/-- a cell is changed -/
theorem Wd.put {c : Ct} {B H : Hp} {ks : List Addr} {os : List Cs} (w : Wd c B H ks os) {q : Addr} (i : Nat) (hk : ks[i]? = some q) {o : HO} {s : Cs} (m : isM o = true) (hs : s.p B o) : Wd c B (upd H q o) ks (os.set i s) := by
  have hq := List.mem_of_getElem? hk
  obtain ⟨b0, o1, h1, _⟩ := w.cell.off q hq
  refine ⟨fun a u h => ?_, w.nd, ?_, w.own, ?_, fun a h => by
    by_cases e : a = q
    · rw [e, upd_same]; exact fun z => nomatch z
    · rw [upd_ne e]; exact w.hs a h⟩
  · rw [upd_ne (fun e => by rw [e, b0] at h; cases h)]
    exact w.ex a u h
  · refine pset2 i w.nd w.cell hk (fun a u e ⟨o2, q1, q2, q3, q4⟩ => ⟨o2, by rw [upd_ne e]; exact q1, q2, q3, q4⟩) ⟨o, upd_same, b0, m, hs⟩
  · refine ⟨w.st.up, w.st.old, fun a u h n => ?_, fun a h => ?_⟩
    · rw [upd_ne (fun e => ?_)]
      · exact w.st.keep a u h n
      · rcases w.own q hq with z | z
        · exact n (by rw [e]; exact z)
        · rw [e, z] at h; cases h
    · by_cases e : a = q
      · rw [e, upd_same]; exact fun z => nomatch z
      · rw [upd_ne e]; exact w.st.tr a h
/-- a new object becomes a cell -/
theorem Wd.own_new {c : Ct} {B H : Hp} {ks : List Addr} {os : List Cs} (w : Wd c B H ks os) {p : Addr} (n : H p = none) {o : HO} {s : Cs} (m : isM o = true) (hs : s.p B o) : Wd c B (upd H p o) (p :: ks) (s :: os) := by
  have bp : B p = none := by
    cases z : B p with
    | none => rfl
    | some u => rw [w.ex p u z] at n; cases n
  refine ⟨fun a u h => ?_, List.nodup_cons.mpr ⟨fun h => ?_, w.nd⟩, .cons ⟨o, upd_same, bp, m, hs⟩ (pmap w.cell fun a u ⟨o2, q1, q2, q3, q4⟩ => ⟨o2, by rw [upd_ne (ne_of_none q1 n)]; exact q1, q2, q3, q4⟩), fun a h => ?_, ?_, fun a h => by rw [upd_ne (fun e => w.hs a h (by rw [e]; exact n))]; exact w.hs a h⟩
  · rw [upd_ne (ne_of_none (w.ex a u h) n)]; exact w.ex a u h
  · obtain ⟨_, o2, h2, _⟩ := w.cell.off p h
    rw [h2] at n; cases n
  · rcases List.mem_cons.mp h with rfl | h
    · exact .inr (w.new0 n)
    · exact w.own a h
  · refine w.st.trans ⟨Same.refl _, fun a h => rfl, fun a u h _ => ?_, fun a h => ?_⟩
    · rw [upd_ne (ne_of_none h n)]; exact h
    · rw [upd_ne (fun e => h (by rw [e]; exact n))]; exact h
/-- a cell of one's own (not handed in) goes into the pure part -/
theorem Wd.freeze {c : Ct} {B H : Hp} {ks : List Addr} {os : List Cs} {p : Addr} {s : Cs} (w : Wd c B H (p :: ks) (s :: os)) (n : c.H0 p = none) : ∃ o, H p = some o ∧ s.p B o ∧ Same B (upd B p o) ∧ Wd c (upd B p o) H ks os := by
  obtain ⟨o, h1, b0, m, hs⟩ : ∃ o, H p = some o ∧ B p = none ∧ isM o = true ∧ s.p B o := Cel.get (i := 0) w.cell rfl rfl
  have up : Same B (upd B p o) := fun a u h => by rw [upd_ne (ne_of_none h b0)]; exact h
  have nd := List.nodup_cons.mp w.nd
  refine ⟨o, h1, hs, up, ⟨fun a u h => ?_, nd.2, ?_, fun a h => w.own a (List.mem_cons_of_mem _ h), ?_, w.hs⟩⟩
  · by_cases e : a = p
    · rw [e, upd_same] at h; rw [e, h1]; exact h
    · rw [upd_ne e] at h; exact w.ex a u h
  · have t : Cel B H ks os := by
      have z := w.cell
      cases z with
      | cons _ t => exact t
    have : ∀ {ks : List Addr} {os : List Cs}, p ∉ ks → Cel B H ks os → Cel (upd B p o) H ks os := by
      intro ks os n t
      induction t with
      | nil => exact .nil
      | cons a b ih =>
        rw [List.mem_cons, not_or] at n
        obtain ⟨o2, q1, q2, q3, q4⟩ := a
        exact .cons ⟨o2, q1, by rw [upd_ne (fun z => n.1 z.symm)]; exact q2, q3, Cs.mono _ up q4⟩ (ih n.2)
    exact this nd.1 t
  · exact ⟨w.st.up.trans up, fun a h => by rw [upd_ne (fun e => h (by rw [e]; exact n))]; exact w.st.old a h, w.st.keep, w.st.tr⟩
theorem cel_rm {B H : Hp} : ∀ {ks : List Addr} {os : List Cs} (i : Nat), Cel B H ks os → Cel B H (ks.eraseIdx i) (os.eraseIdx i)
  | _, _, _, .nil => .nil
  | _, _, 0, .cons _ t => t
  | _, _, i + 1, .cons a t => .cons a (cel_rm i t)
/-- the i-th cell is forgotten -/
theorem Wd.rm {c : Ct} {B H : Hp} {ks : List Addr} {os : List Cs} (w : Wd c B H ks os) (i : Nat) : Wd c B H (ks.eraseIdx i) (os.eraseIdx i) :=
  ⟨w.ex, w.nd.sublist (List.eraseIdx_sublist ..), cel_rm i w.cell, fun a h => w.own a (List.mem_of_mem_eraseIdx h), w.st, w.hs⟩
/-- a cell is forgotten -/
theorem Wd.drop {c : Ct} {B H : Hp} {ks : List Addr} {os : List Cs} {p : Addr} {s : Cs} (w : Wd c B H (p :: ks) (s :: os)) : Wd c B H ks os := by
  refine ⟨w.ex, (List.nodup_cons.mp w.nd).2, ?_, fun a h => w.own a (List.mem_cons_of_mem _ h), w.st, w.hs⟩
  have z := w.cell
  cases z with
  | cons _ t => exact t
end Dl

/-! Ev -/
set_option Elab.async false
set_option linter.all false
set_option maxRecDepth 100000
set_option maxHeartbeats 2000000
namespace Dl
open PySem PySem.Spec L2
/-! ### what is said of a value -/
structure Sv where
  p : V → Hp → Prop
  mono : ∀ {v : V} {B B' : Hp}, Same B B' → p v B → p v B'
def Rl.s {α : Type} (R : Rl α) (K : Fg) (x : α) : Sv := ⟨fun v B => R.r K B v x, fun e h => R.mono e h⟩
def Rl.g {α : Type} (R : Rl α) (K : Fg) (H0 : Hp) (x : α) : Sv := ⟨fun v B => R.f K H0 B v x, fun e h => R.ftr (fun a o q _ => e a o q) h⟩
/-- the address of a cell of one's own -/
def SA (q : Addr) : Sv := ⟨fun v _ => v = .ref q, fun _ h => h⟩
def Sle (S T : Sv) : Prop := ∀ v B, S.p v B → T.p v B
theorem g_s {α : Type} {R : Rl α} {K : Fg} {H0 : Hp} {x : α} : Sle (R.g K H0 x) (R.s K x) := fun _ _ h => R.fr h
theorem s_g {α : Type} {R : Rl α} {K : Fg} {H0 : Hp} {x : α} (i : Imm R) : Sle (R.s K x) (R.g K H0 x) := fun _ _ h => i _ _ _ _ _ h
def Ev (c : Ct) (te : TE) (σ : L2.St) (B : Hp) (ks : List Addr) (os os' : List Cs) (S : Sv) : Prop :=
  ∀ B1 H1, Same B B1 → Wd c B1 H1 ks os → ∀ Q : VK, (∀ v B2 H2, Same B1 B2 → Wd c B2 H2 ks os' → S.p v B2 → Q v H2) → te σ H1 Q
def EvT (c : Ct) (tt : TT) (σ : L2.St) (B : Hp) (ks : List Addr) (os os' : List Cs) (b : Bool) : Prop :=
  ∀ B1 H1, Same B B1 → Wd c B1 H1 ks os → ∀ Q : Bool → Hp → Prop, (∀ B2 H2, Same B1 B2 → Wd c B2 H2 ks os' → Q b H2) → tt σ H1 Q
def EvA (c : Ct) (ta : TA) (σ : L2.St) (B : Hp) (ks : List Addr) (os os' : List Cs) (Ss : List Sv) : Prop :=
  ∀ B1 H1, Same B B1 → Wd c B1 H1 ks os → ∀ Q : List V → Hp → Prop, (∀ vs B2 H2, Same B1 B2 → Wd c B2 H2 ks os' → Paired (fun v S => Sv.p S v B2) vs Ss → Q vs H2) → ta σ H1 Q
section
variable {c : Ct} {te ta tb : TE} {tt tu : TT} {tl tr : TA} {σ : L2.St} {B : Hp} {ks : List Addr} {os o1 o2 o3 : List Cs} {S T U : Sv} {Ss : List Sv} {i : Nat} {v : V} {r : R2}
theorem Ev.le (h : Ev c te σ B ks o1 o2 S) (k : Sle S T) : Ev c te σ B ks o1 o2 T := fun B1 H1 e w Q q => h B1 H1 e w Q fun v B2 H2 e2 w2 s => q v B2 H2 e2 w2 (k _ _ s)
theorem Ev.up {B' : Hp} (e : Same B B') (h : Ev c te σ B ks o1 o2 S) : Ev c te σ B' ks o1 o2 S := fun B1 H1 e1 => h B1 H1 (e.trans e1)
theorem ev_var (h : σ[i]? = some (some v)) (hs : S.p v B) : Ev c (tVar i) σ B ks os os S := fun B1 H1 e w Q q => ⟨v, h, q v B1 H1 (Same.refl _) w (S.mono e hs)⟩
theorem ev_c (hs : ∀ B, S.p v B) : Ev c (tC v) σ B ks os os S := fun B1 H1 e w Q q => q v B1 H1 (Same.refl _) w (hs _)
theorem ev_int {n : Int} : Ev c (tC (.int n)) σ B ks os os (rInt.s c.K n) := ev_c fun _ => rfl
theorem ev_bl {b : Bool} : Ev c (tC (.bl b)) σ B ks os os (rBool.s c.K b) := ev_c fun _ => rfl
theorem ev_str {z : Str} : Ev c (tC (.str z)) σ B ks os os (rStr.s c.K z) := ev_c fun _ => rfl
theorem ev_non : Ev c (tC .non) σ B ks os os (rUnit.s c.K ()) := ev_c fun _ => rfl
theorem ev_nonO {α : Type} {R : Rl α} : Ev c (tC .non) σ B ks os os ((rOpt R).s c.K none) := ev_c fun _ => rfl
theorem ev_op (ha : Ev c ta σ B ks o1 o2 S) (hb : Ev c tb σ B ks o2 o3 T)
    (hr : ∀ x y B2 H2, Wd c B2 H2 ks o3 → S.p x B2 → T.p y B2 → ∀ Q : VK, (∀ v B3 H3, Same B2 B3 → Wd c B3 H3 ks o3 → U.p v B3 → Q v H3) → r x y H2 Q) : Ev c (tOp r ta tb) σ B ks o1 o3 U := fun B1 H1 e w Q q =>
  ha B1 H1 e w _ fun x B2 H2 e2 w2 s2 => hb B2 H2 (e.trans e2) w2 _ fun y B3 H3 e3 w3 s3 => hr x y B3 H3 w3 (S.mono e3 s2) s3 Q fun v B4 H4 e4 w4 s4 => q v B4 H4 ((e2.trans e3).trans e4) w4 s4
theorem ev_op0 (ha : Ev c ta σ B ks o1 o2 S) (hb : Ev c tb σ B ks o2 o3 T) (hr : ∀ x y B2 H2, Wd c B2 H2 ks o3 → S.p x B2 → T.p y B2 → ∃ v, U.p v B2 ∧ ∀ Q : VK, Q v H2 → r x y H2 Q) : Ev c (tOp r ta tb) σ B ks o1 o3 U :=
  ev_op ha hb fun x y B2 H2 w s t Q q => let ⟨v, u, k⟩ := hr x y B2 H2 w s t; k Q (q v B2 H2 (Same.refl _) w u)
theorem ev_I {C : Int → Int → Prop} {g : Int → Int → V} {m n : Int} {α : Type} {R : Rl α} {z : α} (ha : Ev c ta σ B ks o1 o2 (rInt.s c.K m)) (hb : Ev c tb σ B ks o2 o3 (rInt.s c.K n)) (hC : C m n) (hg : ∀ B, R.r c.K B (g m n) z) : Ev c (tOp (rI C g) ta tb) σ B ks o1 o3 (R.s c.K z) :=
  ev_op0 ha hb fun x y B2 H2 _ s t => ⟨g m n, hg _, fun Q q => ⟨m, n, s, t, hC, q⟩⟩
theorem ev_I0 {g : Int → Int → V} {m n : Int} {α : Type} {R : Rl α} {z : α} (ha : Ev c ta σ B ks o1 o2 (rInt.s c.K m)) (hb : Ev c tb σ B ks o2 o3 (rInt.s c.K n)) (hg : ∀ B, R.r c.K B (g m n) z) : Ev c (tOp (rI0 g) ta tb) σ B ks o1 o3 (R.s c.K z) :=
  ev_op0 ha hb fun x y B2 H2 _ s t => ⟨g m n, hg _, fun Q q => ⟨m, n, s, t, q⟩⟩
theorem ev_add {m n : Int} (ha : Ev c ta σ B ks o1 o2 (rInt.s c.K m)) (hb : Ev c tb σ B ks o2 o3 (rInt.s c.K n)) : Ev c (tOp (rI0 fun i j => .int (i + j)) ta tb) σ B ks o1 o3 (rInt.s c.K (m + n)) := ev_I0 ha hb fun _ => rfl
theorem ev_sub {m n : Int} (ha : Ev c ta σ B ks o1 o2 (rInt.s c.K m)) (hb : Ev c tb σ B ks o2 o3 (rInt.s c.K n)) : Ev c (tOp (rI0 fun i j => .int (i - j)) ta tb) σ B ks o1 o3 (rInt.s c.K (m - n)) := ev_I0 ha hb fun _ => rfl
/-- a product, one factor within 2^64 -/
def mulO (m n : Int) : Option Int := if (-(2 ^ 64) < m ∧ m < 2 ^ 64) ∨ (-(2 ^ 64) < n ∧ n < 2 ^ 64) then some (m * n) else none
theorem ev_mul {m n z : Int} (ha : Ev c ta σ B ks o1 o2 (rInt.s c.K m)) (hb : Ev c tb σ B ks o2 o3 (rInt.s c.K n)) (h : mulO m n = some z) : Ev c (tOp (rI CMul fun i j => .int (i * j)) ta tb) σ B ks o1 o3 (rInt.s c.K z) := by
  unfold mulO at h
  split at h
  · rename_i hc
    exact ev_I ha hb hc fun _ => by cases h; rfl
  · cases h
def modO (m n : Int) : Option Int := if n ≠ 0 then some (m.fmod n) else none
theorem ev_mod {m n z : Int} (ha : Ev c ta σ B ks o1 o2 (rInt.s c.K m)) (hb : Ev c tb σ B ks o2 o3 (rInt.s c.K n)) (h : modO m n = some z) : Ev c (tOp (rI (fun _ j => j ≠ 0) fun i j => .int (i.fmod j)) ta tb) σ B ks o1 o3 (rInt.s c.K z) := by
  unfold modO at h
  split at h
  · rename_i hc
    exact ev_I (C := fun _ j => j ≠ 0) ha hb hc fun _ => by cases h; rfl
  · cases h
def divO (m n : Int) : Option Int := if n ≠ 0 ∧ n.natAbs < 1073741824 then some (m.fdiv n) else none
theorem ev_div {m n z : Int} (ha : Ev c ta σ B ks o1 o2 (rInt.s c.K m)) (hb : Ev c tb σ B ks o2 o3 (rInt.s c.K n)) (h : divO m n = some z) : Ev c (tOp (rI CDivN fun i j => .int (i.fdiv j)) ta tb) σ B ks o1 o3 (rInt.s c.K z) := by
  unfold divO at h
  split at h
  · rename_i hc
    exact ev_I (C := CDivN) ha hb hc fun _ => by cases h; rfl
  · cases h
theorem ev_pow {m n : Int} (ha : Ev c ta σ B ks o1 o2 (rInt.s c.K m)) (hb : Ev c tb σ B ks o2 o3 (rInt.s c.K n)) (h : 0 ≤ n ∧ n ≤ 1000000 ∧ m.natAbs < 2 ^ 64) : Ev c (tOp (rI CPow fun i j => .int (i ^ j.toNat)) ta tb) σ B ks o1 o3 (rInt.s c.K (m ^ n.toNat)) := ev_I (C := CPow) ha hb h fun _ => rfl
theorem ev_neg {m : Int} (ha : Ev c ta σ B ks o1 o2 (rInt.s c.K m)) : Ev c (tUn (rU fun i => .int (-i)) ta) σ B ks o1 o2 (rInt.s c.K (-m)) := fun B1 H1 e w Q q => ha B1 H1 e w _ fun x B2 H2 e2 w2 s => ⟨m, s, q _ B2 H2 e2 w2 rfl⟩
theorem ev_lt {m n : Int} (ha : Ev c ta σ B ks o1 o2 (rInt.s c.K m)) (hb : Ev c tb σ B ks o2 o3 (rInt.s c.K n)) : Ev c (tOp (rI0 fun i j => .bl (decide (i < j))) ta tb) σ B ks o1 o3 (rBool.s c.K (decide (m < n))) := ev_I0 ha hb fun _ => rfl
theorem ev_le {m n : Int} (ha : Ev c ta σ B ks o1 o2 (rInt.s c.K m)) (hb : Ev c tb σ B ks o2 o3 (rInt.s c.K n)) : Ev c (tOp (rI0 fun i j => .bl (decide (i ≤ j))) ta tb) σ B ks o1 o3 (rBool.s c.K (decide (m ≤ n))) := ev_I0 ha hb fun _ => rfl
theorem ev_gt {m n : Int} (ha : Ev c ta σ B ks o1 o2 (rInt.s c.K m)) (hb : Ev c tb σ B ks o2 o3 (rInt.s c.K n)) : Ev c (tOp (rI0 fun i j => .bl (decide (j < i))) ta tb) σ B ks o1 o3 (rBool.s c.K (decide (n < m))) := ev_I0 ha hb fun _ => rfl
theorem ev_ge {m n : Int} (ha : Ev c ta σ B ks o1 o2 (rInt.s c.K m)) (hb : Ev c tb σ B ks o2 o3 (rInt.s c.K n)) : Ev c (tOp (rI0 fun i j => .bl (decide (j ≤ i))) ta tb) σ B ks o1 o3 (rBool.s c.K (decide (n ≤ m))) := ev_I0 ha hb fun _ => rfl
theorem ev_eqI {m n : Int} (ha : Ev c ta σ B ks o1 o2 (rInt.s c.K m)) (hb : Ev c tb σ B ks o2 o3 (rInt.s c.K n)) : Ev c (tOp rEq ta tb) σ B ks o1 o3 (rBool.s c.K (decide (m = n))) := ev_op0 ha hb fun x y B2 H2 _ s t => by
  cases (show x = .int m from s); cases (show y = .int n from t)
  refine ⟨.bl (decide (m = n)), rfl, fun Q q => ⟨rfl, ?_⟩⟩
  rw [show decide (V.int m = V.int n) = decide (m = n) from by simp]
  exact q
theorem ev_neI {m n : Int} (ha : Ev c ta σ B ks o1 o2 (rInt.s c.K m)) (hb : Ev c tb σ B ks o2 o3 (rInt.s c.K n)) : Ev c (tOp rNe ta tb) σ B ks o1 o3 (rBool.s c.K (!decide (m = n))) := ev_op0 ha hb fun x y B2 H2 _ s t => by
  cases (show x = .int m from s); cases (show y = .int n from t)
  refine ⟨.bl (!decide (m = n)), rfl, fun Q q => ⟨rfl, ?_⟩⟩
  rw [show decide (V.int m = V.int n) = decide (m = n) from by simp]
  exact q
/-- is None, is not None -/
theorem ev_isN {α : Type} {R : Rl α} {x : Option α} (ha : Ev c ta σ B ks o1 o2 ((rOpt R).s c.K x)) (hn : ∀ K B v a, R.r K B v a → v ≠ .non) : Ev c (tOp (fun x y H Q => y = .non ∧ Q (.bl (decide (x = .non))) H) ta (tC .non)) σ B ks o1 o2 (rBool.s c.K x.isNone) := ev_op0 ha ev_non fun y z B2 H2 _ s t => by
  refine ⟨.bl x.isNone, rfl, fun Q q => ⟨t, ?_⟩⟩
  have e : decide (y = V.non) = x.isNone := by
    cases x with
    | none => exact decide_eq_true s
    | some a => exact decide_eq_false (hn _ _ _ _ s)
  rw [e]; exact q
theorem ev_notN {α : Type} {R : Rl α} {x : Option α} (ha : Ev c ta σ B ks o1 o2 ((rOpt R).s c.K x)) (hn : ∀ K B v a, R.r K B v a → v ≠ .non) : Ev c (tOp (fun x y H Q => y = .non ∧ Q (.bl (!decide (x = .non))) H) ta (tC .non)) σ B ks o1 o2 (rBool.s c.K x.isSome) := ev_op0 ha ev_non fun y z B2 H2 _ s t => by
  refine ⟨.bl x.isSome, rfl, fun Q q => ⟨t, ?_⟩⟩
  have e : (!decide (y = V.non)) = x.isSome := by
    cases x with
    | none => rw [decide_eq_true (show y = V.non from s)]; rfl
    | some a => rw [decide_eq_false (hn _ _ _ _ s)]; rfl
  rw [e]; exact q
/-! ### tests -/
theorem et_test {b : Bool} (h : Ev c te σ B ks o1 o2 (rBool.s c.K b)) : EvT c (tTest te) σ B ks o1 o2 b := fun B1 H1 e w Q q => h B1 H1 e w _ fun v B2 H2 e2 w2 s => ⟨b, s, q B2 H2 e2 w2⟩
theorem et_B {b : Bool} (h : Ev c te σ B ks o1 o2 (rBool.s c.K b)) : EvT c (tB te) σ B ks o1 o2 b := fun B1 H1 e w Q q => h B1 H1 e w _ fun v B2 H2 e2 w2 s => ⟨b, s, q B2 H2 e2 w2⟩
theorem et_and {a b : Bool} (h1 : EvT c tt σ B ks o1 o2 a) (h2 : a = true → EvT c tu σ B ks o2 o3 b) (h3 : a = false → o2 = o3) : EvT c (tAnd tt tu) σ B ks o1 o3 (a && b) := fun B1 H1 e w Q q => h1 B1 H1 e w _ fun B2 H2 e2 w2 => by
  cases a with
  | true => exact h2 rfl B2 H2 (e.trans e2) w2 Q fun B3 H3 e3 w3 => q B3 H3 (e2.trans e3) w3
  | false => cases h3 rfl; exact q B2 H2 e2 w2
theorem et_or {a b : Bool} (h1 : EvT c tt σ B ks o1 o2 a) (h2 : a = false → EvT c tu σ B ks o2 o3 b) (h3 : a = true → o2 = o3) : EvT c (tOr tt tu) σ B ks o1 o3 (a || b) := fun B1 H1 e w Q q => h1 B1 H1 e w _ fun B2 H2 e2 w2 => by
  cases a with
  | true => cases h3 rfl; exact q B2 H2 e2 w2
  | false => exact h2 rfl B2 H2 (e.trans e2) w2 Q fun B3 H3 e3 w3 => q B3 H3 (e2.trans e3) w3
theorem et_not {a : Bool} (h1 : EvT c tt σ B ks o1 o2 a) : EvT c (tNot tt) σ B ks o1 o2 (!a) := fun B1 H1 e w Q q => h1 B1 H1 e w _ fun B2 H2 e2 w2 => q B2 H2 e2 w2
theorem ev_ofT {b : Bool} (h : EvT c tt σ B ks o1 o2 b) {te : TE} (ht : ∀ σ H Q, tt σ H (fun k H' => Q (.bl k) H') → te σ H Q) : Ev c te σ B ks o1 o2 (rBool.s c.K b) := fun B1 H1 e w Q q => ht _ _ _ (h B1 H1 e w _ fun B2 H2 e2 w2 => q _ B2 H2 e2 w2 rfl)
theorem ev_andV {a b : Bool} (h1 : Ev c ta σ B ks o1 o2 (rBool.s c.K a)) (h2 : a = true → Ev c tb σ B ks o2 o3 (rBool.s c.K b)) (h3 : a = false → o2 = o3) : Ev c (tAndV ta tb) σ B ks o1 o3 (rBool.s c.K (a && b)) := fun B1 H1 e w Q q => h1 B1 H1 e w _ fun v B2 H2 e2 w2 s => ⟨a, s, by
  cases a with
  | true => exact h2 rfl B2 H2 (e.trans e2) w2 Q fun v B3 H3 e3 w3 s => q v B3 H3 (e2.trans e3) w3 s
  | false => cases h3 rfl; exact q _ B2 H2 e2 w2 rfl⟩
theorem ev_orV {a b : Bool} (h1 : Ev c ta σ B ks o1 o2 (rBool.s c.K a)) (h2 : a = false → Ev c tb σ B ks o2 o3 (rBool.s c.K b)) (h3 : a = true → o2 = o3) : Ev c (tOrV ta tb) σ B ks o1 o3 (rBool.s c.K (a || b)) := fun B1 H1 e w Q q => h1 B1 H1 e w _ fun v B2 H2 e2 w2 s => ⟨a, s, by
  cases a with
  | true => cases h3 rfl; exact q _ B2 H2 e2 w2 rfl
  | false => exact h2 rfl B2 H2 (e.trans e2) w2 Q fun v B3 H3 e3 w3 s => q v B3 H3 (e2.trans e3) w3 s⟩
theorem ev_notV {a : Bool} (h1 : Ev c ta σ B ks o1 o2 (rBool.s c.K a)) : Ev c (tNotV ta) σ B ks o1 o2 (rBool.s c.K (!a)) := fun B1 H1 e w Q q => h1 B1 H1 e w _ fun v B2 H2 e2 w2 s => ⟨a, s, q _ B2 H2 e2 w2 rfl⟩
theorem ev_if {b : Bool} (h : EvT c tt σ B ks o1 o2 b) (h1 : b = true → Ev c ta σ B ks o2 o3 S) (h2 : b = false → Ev c tb σ B ks o2 o3 S) : Ev c (tIf tt ta tb) σ B ks o1 o3 S := fun B1 H1 e w Q q => h B1 H1 e w _ fun B2 H2 e2 w2 => by
  cases b with
  | true => exact h1 rfl B2 H2 (e.trans e2) w2 Q fun v B3 H3 e3 w3 s => q v B3 H3 (e2.trans e3) w3 s
  | false => exact h2 rfl B2 H2 (e.trans e2) w2 Q fun v B3 H3 e3 w3 s => q v B3 H3 (e2.trans e3) w3 s
/-! ### arguments -/
theorem ea_nil : EvA c tNil σ B ks os os [] := fun B1 H1 e w Q q => q [] B1 H1 (Same.refl _) w .nil
theorem ea_cons (h : Ev c te σ B ks o1 o2 S) (hr : EvA c tr σ B ks o2 o3 Ss) : EvA c (tCons te tr) σ B ks o1 o3 (S :: Ss) := fun B1 H1 e w Q q =>
  h B1 H1 e w _ fun v B2 H2 e2 w2 s => hr B2 H2 (e.trans e2) w2 _ fun vs B3 H3 e3 w3 ss => q _ B3 H3 (e2.trans e3) w3 (.cons (S.mono e3 s) ss)
end
end Dl

/-! Ev2 -/
set_option Elab.async false
set_option linter.all false
set_option maxRecDepth 100000
set_option maxHeartbeats 2000000
namespace Dl
open PySem PySem.Spec L2
/-! ### lists, wherever they stand -/
/-- a list that is freshly made, its items as they are -/
def SN {α : Type} (R : Rl α) (K : Fg) (H0 : Hp) (xs : List α) : Sv := ⟨fun v B => ∃ p vs, v = .ref p ∧ H0 p = none ∧ B p = some (.lst vs) ∧ Paired (R.r K B) vs xs, fun e h => let ⟨p, vs, a, n, b, d⟩ := h; ⟨p, vs, a, n, e _ _ b, pmap d fun _ _ q => R.mono e q⟩⟩
theorem sn_s {α : Type} {R : Rl α} {K : Fg} {H0 : Hp} {xs : List α} : Sle (SN R K H0 xs) ((rLst R).s K xs) := fun _ _ h => let ⟨p, vs, a, _, b, d⟩ := h; ⟨p, vs, a, b, d⟩
theorem sn_g {α : Type} {R : Rl α} {K : Fg} {H0 : Hp} {xs : List α} (i : Imm R) : Sle (SN R K H0 xs) ((rLst R).g K H0 xs) := fun _ _ h => let ⟨p, vs, a, n, b, d⟩ := h; ⟨p, vs, a, n, b, pmap d fun _ _ q => i _ _ _ _ _ q⟩
theorem g_sn {α : Type} {R : Rl α} {K : Fg} {H0 : Hp} {xs : List α} : Sle ((rLst R).g K H0 xs) (SN R K H0 xs) := fun _ _ h => let ⟨p, vs, a, n, b, d⟩ := h; ⟨p, vs, a, n, b, pmap d fun _ _ q => R.fr q⟩
def SrcL (c : Ct) (ks : List Addr) (os : List Cs) (S : Sv) {α : Type} (R : Rl α) (xs : List α) : Prop :=
  ∀ v B H, Wd c B H ks os → S.p v B → ∃ p vs, v = .ref p ∧ H p = some (.lst vs) ∧ expo ks H B p = some (.lst vs) ∧ Paired (R.r c.K B) vs xs
section
variable {c : Ct} {te ta tb : TE} {tt tu : TT} {tl tr : TA} {σ : L2.St} {B H : Hp} {ks : List Addr} {os o1 o2 o3 : List Cs} {S T U : Sv} {Ss : List Sv} {i : Nat} {v : V} {r : R2} {α β : Type} {R : Rl α} {xs ys : List α} {x y : α}
theorem src_p : SrcL c ks os ((rLst R).s c.K xs) R xs := fun v B H w h => let ⟨p, vs, a, b, d⟩ := h; ⟨p, vs, a, w.ex _ _ b, expo_same w (fun _ z => z) _ _ b, d⟩
theorem src_n : SrcL c ks os (SN R c.K c.Hs xs) R xs := fun v B H w h => let ⟨p, vs, a, _, b, d⟩ := h; ⟨p, vs, a, w.ex _ _ b, expo_same w (fun _ z => z) _ _ b, d⟩
theorem src_g : SrcL c ks os ((rLst R).g c.K c.Hs xs) R xs := fun v B H w h => src_n v B H w (g_sn v B h)
theorem src_o {q : Addr} (i : Nat) (hk : ks[i]? = some q) (ho : os[i]? = some (CL R c.K xs)) : SrcL c ks os (SA q) R xs := fun v B H w h => by
  obtain ⟨o, h1, _, _, vs, rfl, d⟩ := w.cell.get hk ho
  exact ⟨q, vs, h, h1, by rw [expo_in (List.mem_of_getElem? hk)]; exact h1, d⟩
theorem pget {F : V → α → Prop} : ∀ {vs : List V} {xs : List α} {i : Nat} {x : α}, Paired F vs xs → xs[i]? = some x → ∃ v, vs[i]? = some v ∧ F v x
  | _, _, _, _, .nil, h => by simp at h
  | _, _, 0, _, .cons q _, h => by simp at h; subst h; exact ⟨_, rfl, q⟩
  | _, _, i + 1, _, .cons _ t, h => by
    obtain ⟨v, e, q⟩ := pget (i := i) t (by simpa using h)
    exact ⟨v, by simpa using e, q⟩
theorem plen {F : V → α → Prop} {vs : List V} {xs : List α} (h : Paired F vs xs) : vs.length = xs.length := Paired.length h
theorem patI {F : V → α → Prop} {vs : List V} {xs : List α} {i : Int} (h : Paired F vs xs) (e : atI xs i = some x) : ∃ v, atI vs i = some v ∧ F v x := by
  unfold atI at e ⊢
  rw [plen h]
  cases z : ixN xs.length i with
  | none => rw [z] at e; cases e
  | some j =>
    rw [z] at e
    exact pget h e
theorem ptake {F : V → α → Prop} : ∀ {vs : List V} {xs : List α} (n : Nat), Paired F vs xs → Paired F (vs.take n) (xs.take n)
  | _, _, 0, _ => .nil
  | _, _, _ + 1, .nil => .nil
  | _, _, n + 1, .cons q t => .cons q (ptake n t)
theorem pdrop {F : V → α → Prop} : ∀ {vs : List V} {xs : List α} (n : Nat), Paired F vs xs → Paired F (vs.drop n) (xs.drop n)
  | _, _, 0, q => q
  | _, _, _ + 1, .nil => .nil
  | _, _, n + 1, .cons _ t => pdrop n t
theorem papp {F : V → α → Prop} : ∀ {vs ws : List V} {xs ys : List α}, Paired F vs xs → Paired F ws ys → Paired F (vs ++ ws) (xs ++ ys)
  | _, _, _, _, .nil, h => h
  | _, _, _, _, .cons q t, h => .cons q (papp t h)
theorem perase {F : V → α → Prop} : ∀ {vs : List V} {xs : List α} (n : Nat), Paired F vs xs → Paired F (vs.eraseIdx n) (xs.eraseIdx n)
  | _, _, _, .nil => .nil
  | _, _, 0, .cons _ t => t
  | _, _, n + 1, .cons q t => .cons q (perase n t)
theorem pset {F : V → α → Prop} {v : V} (h : F v x) : ∀ {vs : List V} {xs : List α} (n : Nat), Paired F vs xs → Paired F (vs.set n v) (xs.set n x)
  | _, _, _, .nil => .nil
  | _, _, 0, .cons _ t => .cons h t
  | _, _, n + 1, .cons q t => .cons q (pset h n t)
theorem pints {B : Hp} : ∀ {vs : List V} {xs : List Int}, Paired (rInt.r c.K B) vs xs → vs = xs.map V.int
  | _, _, .nil => rfl
  | _, _, .cons q t => by rw [pints t]; cases (show _ = V.int _ from q); rfl
theorem ints_p {B : Hp} : ∀ (xs : List Int), Paired (rInt.r c.K B) (xs.map V.int) xs
  | [] => .nil
  | x :: xs => .cons rfl (ints_p xs)
theorem pbools {B : Hp} : ∀ {vs : List V} {xs : List Bool}, Paired (rBool.r c.K B) vs xs → vs = xs.map V.bl
  | _, _, .nil => rfl
  | _, _, .cons q t => by rw [pbools t]; cases (show _ = V.bl _ from q); rfl
/-- a generic one-argument built-in -/
theorem ev_cb1 {rr : List V → Hp → VK → Prop} (ha : Ev c ta σ B ks o1 o2 S) (hr : ∀ x B2 H2, Wd c B2 H2 ks o2 → S.p x B2 → ∀ Q : VK, (∀ v B3 H3, Same B2 B3 → Wd c B3 H3 ks o2 → U.p v B3 → Q v H3) → rr [x] H2 Q) : Ev c (tCB rr (tCons ta tNil)) σ B ks o1 o2 U := fun B1 H1 e w Q q =>
  ha B1 H1 e w _ fun x B2 H2 e2 w2 s => hr x B2 H2 w2 s Q fun v B3 H3 e3 w3 u => q v B3 H3 (e2.trans e3) w3 u
theorem ev_len (ha : Ev c ta σ B ks o1 o2 S) (hs : SrcL c ks o2 S R xs) : Ev c (tCB (fun xs H Q => ∃ p ys, xs = [.ref p] ∧ (SqL c.K H p ys ∨ SqT c.K H p ys) ∧ Q (.int ys.length) H) (tCons ta tNil)) σ B ks o1 o2 (rInt.s c.K (xs.length : Int)) :=
  ev_cb1 ha fun x B2 H2 w s Q q => by
    obtain ⟨p, vs, rfl, a, _, d⟩ := hs x B2 H2 w s
    exact ⟨p, vs, rfl, .inl (SqL.of a), by rw [plen d]; exact q _ B2 H2 (Same.refl _) w rfl⟩
theorem ev_lenT (ha : Ev c ta σ B ks o1 o2 ((rTpl R).s c.K xs)) : Ev c (tCB (fun xs H Q => ∃ p ys, xs = [.ref p] ∧ (SqL c.K H p ys ∨ SqT c.K H p ys) ∧ Q (.int ys.length) H) (tCons ta tNil)) σ B ks o1 o2 (rInt.s c.K (xs.length : Int)) :=
  ev_cb1 ha fun x B2 H2 w s Q q => by
    obtain ⟨p, vs, rfl, a, d⟩ := s
    exact ⟨p, vs, rfl, .inr (sqt_same w.ex a), by rw [plen d]; exact q _ B2 H2 (Same.refl _) w rfl⟩
theorem new_list {vs : List V} {Q : VK} (w : Wd c B H ks os) (d : Paired (R.r c.K B) vs xs) (q : ∀ v B3 H3, Same B B3 → Wd c B3 H3 ks os → (SN R c.K c.Hs xs).p v B3 → Q v H3) (p : Addr) (n : H p = none) : Q (.ref p) (upd H p (.lst vs)) := by
  obtain ⟨up, w2⟩ := w.new n (.lst vs)
  exact q _ _ _ up w2 ⟨p, vs, rfl, w.news n, upd_same, pmap d fun _ _ z => R.mono up z⟩
theorem new_tup {vs : List V} {Q : VK} (w : Wd c B H ks os) (q : ∀ v B3 H3, Same B B3 → Wd c B3 H3 ks os → (∃ p, v = .ref p ∧ B3 p = some (.tup vs)) → Q v H3) (p : Addr) (n : H p = none) : Q (.ref p) (upd H p (.tup vs)) := by
  obtain ⟨up, w2⟩ := w.new n (.tup vs)
  exact q _ _ _ up w2 ⟨p, rfl, upd_same⟩
theorem ev_list (ha : Ev c ta σ B ks o1 o2 S) (hs : SrcL c ks o2 S R xs) : Ev c (tCB (fun xs H Q => ∃ p ys, xs = [.ref p] ∧ (SqL c.K H p ys ∨ SqT c.K H p ys) ∧ ∀ l, H l = none → Q (.ref l) (upd H l (.lst ys))) (tCons ta tNil)) σ B ks o1 o2 (SN R c.K c.Hs xs) :=
  ev_cb1 ha fun x B2 H2 w s Q q => by
    obtain ⟨p, vs, rfl, a, _, d⟩ := hs x B2 H2 w s
    exact ⟨p, vs, rfl, .inl (SqL.of a), new_list w d q⟩
theorem ev_listT (ha : Ev c ta σ B ks o1 o2 ((rTpl R).s c.K xs)) : Ev c (tCB (fun xs H Q => ∃ p ys, xs = [.ref p] ∧ (SqL c.K H p ys ∨ SqT c.K H p ys) ∧ ∀ l, H l = none → Q (.ref l) (upd H l (.lst ys))) (tCons ta tNil)) σ B ks o1 o2 (SN R c.K c.Hs xs) :=
  ev_cb1 ha fun x B2 H2 w s Q q => by
    obtain ⟨p, vs, rfl, a, d⟩ := s
    exact ⟨p, vs, rfl, .inr (sqt_same w.ex a), new_list w d q⟩
theorem ev_tuple (ha : Ev c ta σ B ks o1 o2 S) (hs : SrcL c ks o2 S R xs) : Ev c (tCB (fun xs H Q => ∃ p ys, xs = [.ref p] ∧ ((SqL c.K H p ys ∧ ∀ l, H l = none → Q (.ref l) (upd H l (.tup ys))) ∨ (SqT c.K H p ys ∧ Q (.ref p) H))) (tCons ta tNil)) σ B ks o1 o2 ((rTpl R).s c.K xs) :=
  ev_cb1 ha fun x B2 H2 w s Q q => by
    obtain ⟨p, vs, rfl, a, _, d⟩ := hs x B2 H2 w s
    exact ⟨p, vs, rfl, .inl ⟨SqL.of a, new_tup w fun v B3 H3 e3 w3 ⟨t, e, z⟩ => q v B3 H3 e3 w3 ⟨t, vs, e, SqT.of z, pmap d fun _ _ y => R.mono e3 y⟩⟩⟩
/-- xs[i] -/
theorem ev_ix {n : Int} (ha : Ev c ta σ B ks o1 o2 S) (hb : Ev c tb σ B ks o2 o3 (rInt.s c.K n)) (hs : SrcL c ks o3 S R xs) (hx : atI xs n = some x) : Ev c (tOp (rIxL c.K) ta tb) σ B ks o1 o3 (R.s c.K x) :=
  ev_op0 ha hb fun a b B2 H2 w s t => by
    obtain ⟨p, vs, rfl, h, _, d⟩ := hs a B2 H2 w s
    obtain ⟨u, hu, ru⟩ := patI d hx
    exact ⟨u, ru, fun Q q => ⟨p, vs, n, u, rfl, t, SqL.of h, hu, q⟩⟩
theorem ev_ixT {n : Int} (ha : Ev c ta σ B ks o1 o2 ((rTpl R).s c.K xs)) (hb : Ev c tb σ B ks o2 o3 (rInt.s c.K n)) (hx : atI xs n = some x) : Ev c (tOp (rIxT c.K) ta tb) σ B ks o1 o3 (R.s c.K x) :=
  ev_op0 ha hb fun a b B2 H2 w s t => by
    obtain ⟨p, vs, rfl, h, d⟩ := s
    obtain ⟨u, hu, ru⟩ := patI d hx
    exact ⟨u, ru, fun Q q => ⟨p, vs, n, u, rfl, t, sqt_same w.ex h, hu, q⟩⟩
theorem ev_T2a {R2' : Rl β} {z : α × β} (ha : Ev c ta σ B ks o1 o2 ((rT2 R R2').s c.K z)) : Ev c (tOp (rIxT c.K) ta (tC (.int 0))) σ B ks o1 o2 (R.s c.K z.1) :=
  ev_op0 ha ev_int fun a b B2 H2 w s t => by
    obtain ⟨p, v1, v2, rfl, h, d1, d2⟩ := s
    exact ⟨v1, d1, fun Q q => ⟨p, _, 0, v1, rfl, t, sqt_same w.ex h, rfl, q⟩⟩
theorem ev_T2b {R2' : Rl β} {z : α × β} (ha : Ev c ta σ B ks o1 o2 ((rT2 R R2').s c.K z)) : Ev c (tOp (rIxT c.K) ta (tC (.int 1))) σ B ks o1 o2 (R2'.s c.K z.2) :=
  ev_op0 ha ev_int fun a b B2 H2 w s t => by
    obtain ⟨p, v1, v2, rfl, h, d1, d2⟩ := s
    exact ⟨v2, d2, fun Q q => ⟨p, _, 1, v2, rfl, t, sqt_same w.ex h, rfl, q⟩⟩
theorem ev_T3a {γ : Type} {R2' : Rl β} {R3 : Rl γ} {z : α × β × γ} (ha : Ev c ta σ B ks o1 o2 ((rT3 R R2' R3).s c.K z)) : Ev c (tOp (rIxT c.K) ta (tC (.int 0))) σ B ks o1 o2 (R.s c.K z.1) :=
  ev_op0 ha ev_int fun a b B2 H2 w s t => by
    obtain ⟨p, v1, v2, v3, rfl, h, d1, d2, d3⟩ := s
    exact ⟨v1, d1, fun Q q => ⟨p, _, 0, v1, rfl, t, sqt_same w.ex h, rfl, q⟩⟩
theorem ev_T3b {γ : Type} {R2' : Rl β} {R3 : Rl γ} {z : α × β × γ} (ha : Ev c ta σ B ks o1 o2 ((rT3 R R2' R3).s c.K z)) : Ev c (tOp (rIxT c.K) ta (tC (.int 1))) σ B ks o1 o2 (R2'.s c.K z.2.1) :=
  ev_op0 ha ev_int fun a b B2 H2 w s t => by
    obtain ⟨p, v1, v2, v3, rfl, h, d1, d2, d3⟩ := s
    exact ⟨v2, d2, fun Q q => ⟨p, _, 1, v2, rfl, t, sqt_same w.ex h, rfl, q⟩⟩
theorem ev_T3c {γ : Type} {R2' : Rl β} {R3 : Rl γ} {z : α × β × γ} (ha : Ev c ta σ B ks o1 o2 ((rT3 R R2' R3).s c.K z)) : Ev c (tOp (rIxT c.K) ta (tC (.int 2))) σ B ks o1 o2 (R3.s c.K z.2.2) :=
  ev_op0 ha ev_int fun a b B2 H2 w s t => by
    obtain ⟨p, v1, v2, v3, rfl, h, d1, d2, d3⟩ := s
    exact ⟨v3, d3, fun Q q => ⟨p, _, 2, v3, rfl, t, sqt_same w.ex h, rfl, q⟩⟩
/-- xs[lo:hi] -/
def cut {α : Type} (xs : List α) (lo hi : Option Int) : List α := (xs.drop (HT.sIx xs.length 0 lo)).take (HT.sIx xs.length xs.length hi - HT.sIx xs.length 0 lo)
def EvO (c : Ct) (to : TO) (σ : L2.St) (B : Hp) (ks : List Addr) (os os' : List Cs) (o : Option Int) : Prop :=
  ∀ B1 H1, Same B B1 → Wd c B1 H1 ks os → ∀ Q : Option Int → Hp → Prop, (∀ B2 H2, Same B1 B2 → Wd c B2 H2 ks os' → Q o H2) → to σ H1 Q
theorem eo_none : EvO c tNoPart σ B ks os os none := fun B1 H1 e w Q q => q B1 H1 (Same.refl _) w
theorem eo_some {n : Int} (h : Ev c ta σ B ks o1 o2 (rInt.s c.K n)) : EvO c (tPart ta) σ B ks o1 o2 (some n) := fun B1 H1 e w Q q => h B1 H1 e w _ fun v B2 H2 e2 w2 s => ⟨n, s, q B2 H2 e2 w2⟩
theorem ev_cut {o4 : List Cs} {tlo thi : TO} {lo hi : Option Int} (ha : Ev c ta σ B ks o1 o2 S) (hl : EvO c tlo σ B ks o2 o3 lo) (hh : EvO c thi σ B ks o3 o4 hi) (hs : SrcL c ks o4 S R xs) : Ev c (tSl (rSlL c.K) ta tlo thi) σ B ks o1 o4 (SN R c.K c.Hs (cut xs lo hi)) := fun B1 H1 e w Q q =>
  ha B1 H1 e w _ fun v B2 H2 e2 w2 s => hl B2 H2 (e.trans e2) w2 _ fun B3 H3 e3 w3 => hh B3 H3 ((e.trans e2).trans e3) w3 _ fun B4 H4 e4 w4 => by
    obtain ⟨p, vs, rfl, h, _, d⟩ := hs v B4 H4 w4 (S.mono (e3.trans e4) s)
    refine ⟨p, vs, rfl, SqL.of h, ?_⟩
    have d2 : Paired (R.r c.K B4) (cutV vs lo hi) (cut xs lo hi) := by
      unfold cutV cut
      rw [plen d]
      exact ptake _ (pdrop _ d)
    exact new_list w4 d2 fun v B5 H5 e5 w5 z => q v B5 H5 (((e2.trans e3).trans e4).trans e5) w5 z
/-- xs + ys -/
theorem ev_cat (ha : Ev c ta σ B ks o1 o2 S) (hb : Ev c tb σ B ks o2 o3 T) (hs : SrcL c ks o3 S R xs) (ht : SrcL c ks o3 T R ys) (hl : xs.length + ys.length ≤ 1000000) : Ev c (tOp rCat ta tb) σ B ks o1 o3 (SN R c.K c.Hs (xs ++ ys)) :=
  ev_op ha hb fun a b B2 H2 w s t Q q => by
    obtain ⟨p, vs, rfl, h, _, d⟩ := hs a B2 H2 w s
    obtain ⟨p', vs', rfl, h', _, d'⟩ := ht b B2 H2 w t
    exact ⟨p, p', vs, vs', rfl, rfl, h, h', by rw [plen d, plen d', sizeLine_eq]; omega, new_list w (papp d d') q⟩
/-- displays -/
theorem ev_lst {tl : TA} (ha : EvA c tl σ B ks o1 o2 (xs.map fun x => R.s c.K x)) (hl : xs.length ≤ 1000) : Ev c (tLst tl) σ B ks o1 o2 (SN R c.K c.Hs xs) := fun B1 H1 e w Q q => ha B1 H1 e w _ fun vs B2 H2 e2 w2 ss => by
  have d : Paired (R.r c.K B2) vs xs := by
    clear q hl ha
    generalize hz : (xs.map fun x => R.s c.K x) = Ss at ss
    induction ss generalizing xs with
    | nil => cases xs with
      | nil => exact .nil
      | cons x xs => cases hz
    | cons h t ih => cases xs with
      | nil => cases hz
      | cons x xs =>
        cases hz
        exact .cons h (ih rfl)
  exact ⟨by rw [plen d, sizeLine_eq]; omega, new_list w2 d fun v B3 H3 e3 w3 z => q v B3 H3 (e2.trans e3) w3 z⟩
theorem ev_tpl {tl : TA} (ha : EvA c tl σ B ks o1 o2 (xs.map fun x => R.s c.K x)) (hl : xs.length ≤ 1000) : Ev c (tTup tl) σ B ks o1 o2 ((rTpl R).s c.K xs) := fun B1 H1 e w Q q => ha B1 H1 e w _ fun vs B2 H2 e2 w2 ss => by
  have d : Paired (R.r c.K B2) vs xs := by
    clear q hl ha
    generalize hz : (xs.map fun x => R.s c.K x) = Ss at ss
    induction ss generalizing xs with
    | nil => cases xs with
      | nil => exact .nil
      | cons x xs => cases hz
    | cons h t ih => cases xs with
      | nil => cases hz
      | cons x xs =>
        cases hz
        exact .cons h (ih rfl)
  exact ⟨by rw [plen d, sizeLine_eq]; omega, new_tup w2 fun v B3 H3 e3 w3 ⟨p, a, b⟩ => q v B3 H3 (e2.trans e3) w3 ⟨p, vs, a, SqT.of b, pmap d fun _ _ y => R.mono e3 y⟩⟩
theorem ev_T2 {R2' : Rl β} {z : β} {tl : TA} (ha : EvA c tl σ B ks o1 o2 [R.s c.K x, R2'.s c.K z]) : Ev c (tTup tl) σ B ks o1 o2 ((rT2 R R2').s c.K (x, z)) := fun B1 H1 e w Q q => ha B1 H1 e w _ fun vs B2 H2 e2 w2 ss => by
  cases ss with
  | cons h1 t => cases t with
    | cons h2 t => cases t with
      | nil => exact ⟨by show 2 ≤ sizeLine; decide, new_tup w2 fun v B3 H3 e3 w3 ⟨p, a, b⟩ => q v B3 H3 (e2.trans e3) w3 ⟨p, _, _, a, SqT.of b, R.mono e3 h1, R2'.mono e3 h2⟩⟩
theorem ev_T3 {γ : Type} {R2' : Rl β} {R3 : Rl γ} {z : β} {u : γ} {tl : TA} (ha : EvA c tl σ B ks o1 o2 [R.s c.K x, R2'.s c.K z, R3.s c.K u]) : Ev c (tTup tl) σ B ks o1 o2 ((rT3 R R2' R3).s c.K (x, z, u)) := fun B1 H1 e w Q q => ha B1 H1 e w _ fun vs B2 H2 e2 w2 ss => by
  cases ss with
  | cons h1 t => cases t with
    | cons h2 t => cases t with
      | cons h3 t => cases t with
        | nil => exact ⟨by show 3 ≤ sizeLine; decide, new_tup w2 fun v B3 H3 e3 w3 ⟨p, a, b⟩ => q v B3 H3 (e2.trans e3) w3 ⟨p, _, _, _, a, SqT.of b, R.mono e3 h1, R2'.mono e3 h2, R3.mono e3 h3⟩⟩
/-- n in xs -/
theorem inV_int (n : Int) (xs : List Int) : inV (.int n) (xs.map V.int) = decide (n ∈ xs) := by
  unfold inV
  induction xs with
  | nil => rfl
  | cons a t ih =>
    rw [List.map_cons, List.any_cons, ih]
    show ((a == n) || decide (n ∈ t)) = decide (n ∈ a :: t)
    by_cases h : a = n
    · subst h; simp
    · have h2 : (a == n) = false := by simpa using h
      rw [h2, Bool.false_or]
      have h3 : ¬ n = a := fun z => h z.symm
      simp [h3]
theorem all_flat (xs : List Int) : (xs.map V.int).all flatV = true := by
  induction xs with
  | nil => rfl
  | cons a t ih => exact ih
theorem ev_in {n : Int} {xs : List Int} (ha : Ev c ta σ B ks o1 o2 (rInt.s c.K n)) (hb : Ev c tb σ B ks o2 o3 T) (hs : SrcL c ks o3 T rInt xs) : Ev c (tOp (rIn c.K false) ta tb) σ B ks o1 o3 (rBool.s c.K (decide (n ∈ xs))) :=
  ev_op0 ha hb fun a b B2 H2 w s t => by
    obtain ⟨p, vs, rfl, h, _, d⟩ := hs b B2 H2 w t
    cases (show a = .int n from s)
    have e := pints d
    subst e
    exact ⟨.bl (decide (n ∈ xs)), rfl, fun Q q => ⟨p, _, rfl, .inl (SqL.of h), rfl, all_flat xs, by rw [inV_int]; exact q⟩⟩
theorem ev_notin {n : Int} {xs : List Int} (ha : Ev c ta σ B ks o1 o2 (rInt.s c.K n)) (hb : Ev c tb σ B ks o2 o3 T) (hs : SrcL c ks o3 T rInt xs) : Ev c (tOp (rIn c.K true) ta tb) σ B ks o1 o3 (rBool.s c.K (!decide (n ∈ xs))) :=
  ev_op0 ha hb fun a b B2 H2 w s t => by
    obtain ⟨p, vs, rfl, h, _, d⟩ := hs b B2 H2 w t
    cases (show a = .int n from s)
    have e := pints d
    subst e
    exact ⟨.bl (!decide (n ∈ xs)), rfl, fun Q q => ⟨p, _, rfl, .inl (SqL.of h), rfl, all_flat xs, by rw [inV_int]; exact q⟩⟩
theorem ev_inT {n : Int} {xs : List Int} (ha : Ev c ta σ B ks o1 o2 (rInt.s c.K n)) (hb : Ev c tb σ B ks o2 o3 ((rTpl rInt).s c.K xs)) : Ev c (tOp (rIn c.K false) ta tb) σ B ks o1 o3 (rBool.s c.K (decide (n ∈ xs))) :=
  ev_op0 ha hb fun a b B2 H2 w s t => by
    obtain ⟨p, vs, rfl, h, d⟩ := t
    cases (show a = .int n from s)
    have e := pints d
    subst e
    exact ⟨.bl (decide (n ∈ xs)), rfl, fun Q q => ⟨p, _, rfl, .inr (sqt_same w.ex h), rfl, all_flat xs, by rw [inV_int]; exact q⟩⟩
theorem ev_notinT {n : Int} {xs : List Int} (ha : Ev c ta σ B ks o1 o2 (rInt.s c.K n)) (hb : Ev c tb σ B ks o2 o3 ((rTpl rInt).s c.K xs)) : Ev c (tOp (rIn c.K true) ta tb) σ B ks o1 o3 (rBool.s c.K (!decide (n ∈ xs))) :=
  ev_op0 ha hb fun a b B2 H2 w s t => by
    obtain ⟨p, vs, rfl, h, d⟩ := t
    cases (show a = .int n from s)
    have e := pints d
    subst e
    exact ⟨.bl (!decide (n ∈ xs)), rfl, fun Q q => ⟨p, _, rfl, .inr (sqt_same w.ex h), rfl, all_flat xs, by rw [inV_int]; exact q⟩⟩
/-- built-ins on ints -/
theorem ev_abs {n : Int} (ha : Ev c ta σ B ks o1 o2 (rInt.s c.K n)) : Ev c (tCB (fun xs H Q => ∃ i, xs = [.int i] ∧ Q (.int (if i < 0 then -i else i)) H) (tCons ta tNil)) σ B ks o1 o2 (rInt.s c.K (if n < 0 then -n else n)) :=
  ev_cb1 ha fun x B2 H2 w s Q q => ⟨n, by rw [show x = .int n from s], q _ B2 H2 (Same.refl _) w rfl⟩
theorem ev_int1 {n : Int} (ha : Ev c ta σ B ks o1 o2 (rInt.s c.K n)) : Ev c (tCB (fun xs H Q => (∃ i, xs = [.int i] ∧ Q (.int i) H) ∨ ∃ k, xs = [.bl k] ∧ Q (.int (if k then 1 else 0)) H) (tCons ta tNil)) σ B ks o1 o2 (rInt.s c.K n) :=
  ev_cb1 ha fun x B2 H2 w s Q q => .inl ⟨n, by rw [show x = .int n from s], q _ B2 H2 (Same.refl _) w rfl⟩
theorem ev_sum {xs : List Int} (ha : Ev c ta σ B ks o1 o2 S) (hs : SrcL c ks o2 S rInt xs) : Ev c (tCB (rSum c.K) (tCons ta tNil)) σ B ks o1 o2 (rInt.s c.K xs.sum) :=
  ev_cb1 ha fun x B2 H2 w s Q q => by
    obtain ⟨p, vs, rfl, a, _, d⟩ := hs x B2 H2 w s
    have e := pints d
    subst e
    exact ⟨p, xs, rfl, SqL.of a, q _ B2 H2 (Same.refl _) w rfl⟩
theorem ev_any {xs : List Bool} (ha : Ev c ta σ B ks o1 o2 S) (hs : SrcL c ks o2 S rBool xs) : Ev c (tCB (rAny c.K) (tCons ta tNil)) σ B ks o1 o2 (rBool.s c.K (xs.any id)) :=
  ev_cb1 ha fun x B2 H2 w s Q q => by
    obtain ⟨p, vs, rfl, a, _, d⟩ := hs x B2 H2 w s
    have e := pbools d
    subst e
    exact ⟨p, xs, rfl, SqL.of a, q _ B2 H2 (Same.refl _) w rfl⟩
theorem ev_all {xs : List Bool} (ha : Ev c ta σ B ks o1 o2 S) (hs : SrcL c ks o2 S rBool xs) : Ev c (tCB (rAll c.K) (tCons ta tNil)) σ B ks o1 o2 (rBool.s c.K (xs.all id)) :=
  ev_cb1 ha fun x B2 H2 w s Q q => by
    obtain ⟨p, vs, rfl, a, _, d⟩ := hs x B2 H2 w s
    have e := pbools d
    subst e
    exact ⟨p, xs, rfl, SqL.of a, q _ B2 H2 (Same.refl _) w rfl⟩
end
end Dl

/-! Ev3 -/
set_option Elab.async false
set_option linter.all false
set_option maxRecDepth 100000
set_option maxHeartbeats 2000000
namespace Dl
open PySem PySem.Spec L2
section
variable {c : Ct} {te ta tb : TE} {tt tu : TT} {tl tr : TA} {σ : L2.St} {B H : Hp} {ks : List Addr} {os o1 o2 o3 : List Cs} {S T U : Sv} {Ss : List Sv} {i : Nat} {v : V} {r : R2} {α β : Type} {R : Rl α} {xs ys : List α} {x y : α} {q : Addr}
/-! ### lists of one's own are changed -/
def appO (xs : List α) (x : α) : Option (List α) := if xs.length < 1000000 then some (xs ++ [x]) else none
def popO (xs : List α) : Option (α × List α) := match xs[xs.length - 1]? with | some y => some (y, xs.dropLast) | none => none
def popAtO (xs : List α) (i : Int) : Option (α × List α) := if xs.length < 1000000 then (match ixN xs.length i with | some k => (match xs[k]? with | some y => some (y, xs.eraseIdx k) | none => none) | none => none) else none
def insO (xs : List α) (i : Int) (x : α) : Option (List α) := if 0 ≤ i ∧ i < 1000000 ∧ xs.length < 1000000 then some (xs.take i.toNat ++ [x] ++ xs.drop i.toNat) else none
def setO (xs : List α) (i : Int) (x : α) : Option (List α) := match ixN xs.length i with | some k => some (xs.set k x) | none => none
theorem set_same {os : List Cs} {s : Cs} (h : os[i]? = some s) (s2 s3 : Cs) : (os.set i s2).set i s3 = os.set i s3 := by rw [List.set_set]
theorem ty_list {p : Addr} {vs : List V} (h : H p = some (.lst vs)) : tyV c.K "list" (.ref p) H := Or.inl ⟨rfl, _, SqL.of h⟩
theorem ev_app {α' : Type} {R' : Rl α'} {xs' : List α'} {z : List α} (i : Nat) (hk : ks[i]? = some q) (ha : Ev c ta σ B ks o1 o1 (SA q)) (h1 : o1[i]? = some (CL R' c.K xs')) (he : Ev c te σ B ks o1 o2 (R.s c.K x)) (h2 : o2[i]? = some (CL R c.K xs)) (hz : appO xs x = some z) :
    Ev c (tBM c.K "list" rAppend ta (tCons te tNil)) σ B ks o1 (o2.set i (CL R c.K z)) (rUnit.s c.K ()) := fun B1 H1 e w Q q0 =>
  ha B1 H1 e w _ fun v B2 H2 e2 w2 s => by
    obtain ⟨o, h3, _, _, vs, rfl, _⟩ := w2.cell.get hk h1
    cases (show v = .ref q from s)
    refine ⟨ty_list h3, he B2 H2 (e.trans e2) w2 _ fun y B3 H3 e3 w3 sy => ?_⟩
    obtain ⟨o, h4, _, _, vs4, rfl, d⟩ := w3.cell.get hk h2
    unfold appO at hz
    split at hz
    · rename_i hl
      cases hz
      refine ⟨q, vs4, y, rfl, rfl, h4, by rw [plen d, sizeLine_eq]; omega, q0 _ B3 _ (e2.trans e3) (w3.put i hk rfl ⟨_, rfl, papp d (.cons sy .nil)⟩) rfl⟩
    · cases hz
theorem ev_pop {z : α × List α} (i : Nat) (hk : ks[i]? = some q) (ha : Ev c ta σ B ks o1 o1 (SA q)) (h1 : o1[i]? = some (CL R c.K xs)) (hz : popO xs = some z) :
    Ev c (tBM0 c.K "list" rPop ta) σ B ks o1 (o1.set i (CL R c.K z.2)) (R.s c.K z.1) := fun B1 H1 e w Q q0 =>
  ha B1 H1 e w _ fun v B2 H2 e2 w2 s => by
    obtain ⟨o, h3, _, _, vs, rfl, d⟩ := w2.cell.get hk h1
    cases (show v = .ref q from s)
    refine ⟨ty_list h3, ?_⟩
    unfold popO at hz
    cases hy : xs[xs.length - 1]? with
    | none => rw [hy] at hz; cases hz
    | some y =>
      rw [hy] at hz; cases hz
      obtain ⟨u, hu, ru⟩ := pget d hy
      have d2 : Paired (R.r c.K B2) vs.dropLast xs.dropLast := by
        rw [List.dropLast_eq_take, List.dropLast_eq_take, plen d]
        exact ptake _ d
      exact ⟨q, vs, u, rfl, rfl, h3, by rw [plen d]; exact hu, q0 _ B2 _ e2 (w2.put i hk rfl ⟨_, rfl, d2⟩) ru⟩
theorem ev_popAt {z : α × List α} {n : Int} {α' : Type} {R' : Rl α'} {xs' : List α'} (i : Nat) (hk : ks[i]? = some q) (ha : Ev c ta σ B ks o1 o1 (SA q)) (h1 : o1[i]? = some (CL R' c.K xs')) (he : Ev c te σ B ks o1 o2 (rInt.s c.K n)) (h2 : o2[i]? = some (CL R c.K xs)) (hz : popAtO xs n = some z) :
    Ev c (tBM c.K "list" rPopAt ta (tCons te tNil)) σ B ks o1 (o2.set i (CL R c.K z.2)) (R.s c.K z.1) := fun B1 H1 e w Q q0 =>
  ha B1 H1 e w _ fun v B2 H2 e2 w2 s => by
    obtain ⟨o, h3, _, _, vs, rfl, _⟩ := w2.cell.get hk h1
    cases (show v = .ref q from s)
    refine ⟨ty_list h3, he B2 H2 (e.trans e2) w2 _ fun y B3 H3 e3 w3 sy => ?_⟩
    obtain ⟨o, h4, _, _, vs4, rfl, d⟩ := w3.cell.get hk h2
    cases (show y = .int n from sy)
    unfold popAtO at hz
    split at hz
    · rename_i hl
      cases hk2 : ixN xs.length n with
      | none => rw [hk2] at hz; cases hz
      | some k =>
        rw [hk2] at hz
        cases hy : xs[k]? with
        | none => simp only [hy] at hz; cases hz
        | some y =>
          simp only [hy] at hz; cases hz
          obtain ⟨u, hu, ru⟩ := pget d hy
          obtain ⟨a1, a2, a3, a4⟩ := ixN_seq hk2
          exact ⟨q, vs4, n, k, u, rfl, rfl, h4, by omega, by omega, by rw [plen d]; exact a1, hu, q0 _ B3 _ (e2.trans e3) (w3.put i hk rfl ⟨_, rfl, perase k d⟩) ru⟩
    · cases hz
theorem ev_ins {z : List α} {n : Int} {α' : Type} {R' : Rl α'} {xs' : List α'} (i : Nat) (hk : ks[i]? = some q) (ha : Ev c ta σ B ks o1 o1 (SA q)) (h1 : o1[i]? = some (CL R' c.K xs')) (hn : Ev c tb σ B ks o1 o2 (rInt.s c.K n)) (he : Ev c te σ B ks o2 o3 (R.s c.K x)) (h2 : o3[i]? = some (CL R c.K xs)) (hz : insO xs n x = some z) :
    Ev c (tBM c.K "list" (fun x vs H Q => ∃ (l : Addr) (xs : List V) (i : Int) (y : V), x = .ref l ∧ vs = [.int i, y] ∧ H l = some (.lst xs) ∧ xs.length < sizeLine ∧ 0 ≤ i ∧ i < 2 ^ 63 ∧ Q .non (upd H l (.lst (xs.take i.toNat ++ [y] ++ xs.drop i.toNat)))) ta (tCons tb (tCons te tNil))) σ B ks o1 (o3.set i (CL R c.K z)) (rUnit.s c.K ()) := fun B1 H1 e w Q q0 =>
  ha B1 H1 e w _ fun v B2 H2 e2 w2 s => by
    obtain ⟨o, h3, _, _, vs, rfl, _⟩ := w2.cell.get hk h1
    cases (show v = .ref q from s)
    refine ⟨ty_list h3, hn B2 H2 (e.trans e2) w2 _ fun m B3 H3 e3 w3 sm => he B3 H3 ((e.trans e2).trans e3) w3 _ fun y B4 H4 e4 w4 sy => ?_⟩
    obtain ⟨o, h4, _, _, vs4, rfl, d⟩ := w4.cell.get hk h2
    cases (show m = .int n from sm)
    unfold insO at hz
    split at hz
    · rename_i hl
      cases hz
      exact ⟨q, vs4, n, y, rfl, rfl, h4, by rw [plen d, sizeLine_eq]; omega, hl.1, by omega, q0 _ B4 _ ((e2.trans e3).trans e4) (w4.put i hk rfl ⟨_, rfl, papp (papp (ptake _ d) (.cons sy .nil)) (pdrop _ d)⟩) rfl⟩
    · cases hz
/-! ### statements -/
variable {D : Ends} {tS uS : TS}
theorem s_asg {j : Nat} (w : Wd c B H ks o1) (h : Ev (c.at H) te σ B ks o1 o2 S) (k : ∀ v B2 H2, Same B B2 → Wd c B2 H2 ks o2 → S.p v B2 → D.nx (σ.set j (some v)) H2) : tAsg te (gName j) D σ H :=
  h B H (Same.refl _) w.at _ fun v B2 H2 e w2 s => k v B2 H2 e (w.un w2) s
/-- the object's items are not to be changed in place -/
def CsI (s : Cs) : Prop := ∀ (B B' : Hp) (o : HO), (∀ a u, B a = some u → isM u = false → B' a = some u) → s.p B o → s.p B' o
theorem imm_tr (hi : Imm R) {K : Fg} {B B' : Hp} (e : ∀ a u, B a = some u → isM u = false → B' a = some u) (h : R.r K B v x) : R.r K B' v x := by
  refine R.fr (H := B) (R.ftr (fun a o z m => ?_) (hi _ B _ _ _ h))
  rcases m with m | m
  · exact e a o z m
  · rw [m] at z; cases z
theorem csi (hi : Imm R) {K : Fg} : CsI (CL R K xs) := fun B B' o e ⟨vs, a, d⟩ => ⟨vs, a, pmap d fun _ _ q => imm_tr hi e q⟩
def AllI : List Cs → Prop
  | [] => True
  | s :: r => CsI s ∧ AllI r
def hid (p : Addr) (B : Hp) : Hp := fun a => if a = p then none else B a
theorem hid_at {p : Addr} {B : Hp} : hid p B p = none := if_pos rfl
theorem hid_ne {p a : Addr} {B : Hp} (h : a ≠ p) : hid p B a = B a := if_neg h
theorem cel_hid {p : Addr} (im : ∀ a u, B a = some u → isM u = false → hid p B a = some u) : ∀ {ks : List Addr} {os : List Cs}, p ∉ ks → AllI os → Cel B H ks os → Cel (hid p B) H ks os
  | _, _, _, _, .nil => .nil
  | _, _, n, ai, .cons a b => by
    rw [List.mem_cons, not_or] at n
    obtain ⟨o2, q1, q2, q3, q4⟩ := a
    exact .cons ⟨o2, q1, by rw [hid_ne (fun z => n.1 z.symm)]; exact q2, q3, ai.1 _ _ _ im q4⟩ (cel_hid im n.2 ai.2 b)
/-- x = a fresh list that becomes a cell of one's own -/
theorem s_own {j : Nat} (w : Wd c B H ks o1) (h : Ev (c.at H) te σ B ks o1 o2 (SN R c.K H xs)) (hi : Imm R) (ai : AllI o2) (k : ∀ p B2 H2, Same B B2 → c.H0 p = none → Wd c B2 H2 (p :: ks) (CL R c.K xs :: o2) → D.nx (σ.set j (some (.ref p))) H2) : tAsg te (gName j) D σ H :=
  h B H (Same.refl _) w.at _ fun v B2 H2 e w2 ⟨p, vs, a, n, b, d⟩ => by
    subst a
    have w3 := w.un w2
    have np : p ∉ ks := fun m => by rw [w3.off m] at b; cases b
    have im : ∀ a u, B2 a = some u → isM u = false → hid p B2 a = some u := fun a u z m => by
      rw [hid_ne (fun ea => by subst ea; rw [b] at z; cases z; cases m)]
      exact z
    have up : Same B (hid p B2) := fun a u h => by
      rw [hid_ne (ne_of_none (w.ex a u h) n)]
      exact e a u h
    refine k p (hid p B2) H2 up (w.new0 n) ⟨fun a u h => ?_, List.nodup_cons.mpr ⟨np, w3.nd⟩, .cons ⟨.lst vs, w3.ex _ _ b, hid_at, rfl, vs, rfl, pmap d fun _ _ q => imm_tr hi im q⟩ (cel_hid im np ai w3.cell), fun a h => ?_, ?_, w3.hs⟩
    · by_cases ea : a = p
      · rw [ea, hid_at] at h; cases h
      · rw [hid_ne ea] at h; exact w3.ex a u h
    · rcases List.mem_cons.mp h with rfl | h
      · exact .inr (w.new0 n)
      · exact w3.own a h
    · exact ⟨fun a u h => up a u (w.st.up a u h), fun a h => by rw [hid_ne (fun ea => h (by rw [ea]; exact w.new0 n))]; exact w3.st.old a h, w3.st.keep, w3.st.tr⟩
/-- x = [], to be filled -/
theorem s_ownNil {j : Nat} (R : Rl α) (w : Wd c B H ks o1) (k : ∀ p H2, c.H0 p = none → Wd c B H2 (p :: ks) (CL R c.K [] :: o1) → D.nx (σ.set j (some (.ref p))) H2) : tAsg (tLst tNil) (gName j) D σ H :=
  ⟨by show 0 ≤ sizeLine; exact Nat.zero_le _, fun p n => k p _ (w.new0 n) (w.own_new n rfl ⟨[], rfl, .nil⟩)⟩
theorem s_ret (w : Wd c B H ks o1) (h : Ev (c.at H) te σ B ks o1 o2 S) (k : ∀ v B2 H2, Same B B2 → Wd c B2 H2 ks o2 → S.p v B2 → D.rt v H2) : tRet te D σ H :=
  h B H (Same.refl _) w.at _ fun v B2 H2 e w2 s => k v B2 H2 e (w.un w2) s
theorem s_drop (w : Wd c B H ks o1) (h : Ev (c.at H) te σ B ks o1 o2 S) (k : ∀ B2 H2, Same B B2 → Wd c B2 H2 ks o2 → D.nx σ H2) : tDrop te D σ H :=
  h B H (Same.refl _) w.at _ fun v B2 H2 e w2 s => k B2 H2 e (w.un w2)
theorem s_if {b : Bool} (w : Wd c B H ks o1) (h : EvT (c.at H) tt σ B ks o1 o2 b) (k1 : b = true → ∀ B2 H2, Same B B2 → Wd c B2 H2 ks o2 → tS D σ H2) (k2 : b = false → ∀ B2 H2, Same B B2 → Wd c B2 H2 ks o2 → uS D σ H2) : tIfS tt tS uS D σ H :=
  h B H (Same.refl _) w.at _ fun B2 H2 e w2 => by
    cases b with
    | true => exact k1 rfl B2 H2 e (w.un w2)
    | false => exact k2 rfl B2 H2 e (w.un w2)
/-- xs[i] = e, xs a cell of one's own -/
theorem s_set {z : List α} {n : Int} {to ti : TE} (i : Nat) (hk : ks[i]? = some q) (w : Wd c B H ks o1) (he : Ev (c.at H) te σ B ks o1 o2 (R.s c.K x)) (ho : Ev (c.at H) to σ B ks o2 o2 (SA q)) (hn : Ev (c.at H) ti σ B ks o2 o3 (rInt.s c.K n)) (h2 : o3[i]? = some (CL R c.K xs)) (hz : setO xs n x = some z)
    (k : ∀ B2 H2, Same B B2 → Wd c B2 H2 ks (o3.set i (CL R c.K z)) → D.nx σ H2) : tAsg te (gSub to ti rSetL) D σ H :=
  he B H (Same.refl _) w.at _ fun v B2 H2 e2 w2 s => ho B2 H2 e2 w2 _ fun v3 B3 H3 e3 w3 s3 => hn B3 H3 (e2.trans e3) w3 _ fun v4 B4 H4 e4 w4 s4 => by
    cases (show v3 = .ref q from s3); cases (show v4 = .int n from s4)
    obtain ⟨o, h4, _, _, vs4, rfl, d⟩ := w4.cell.get hk h2
    unfold setO at hz
    cases hj : ixN xs.length n with
    | none => rw [hj] at hz; cases hz
    | some j =>
      rw [hj] at hz; cases hz
      exact ⟨q, vs4, n, j, rfl, rfl, h4, by rw [plen d]; exact hj, k B4 _ ((e2.trans e3).trans e4) ((w.un w4).put i hk rfl ⟨_, rfl, pset (R.mono (e3.trans e4) s) j d⟩)⟩
/-! ### walks -/
def IterSpec (K : Fg) (J : It) (B2 : Hp) {α : Type} (R : Rl α) (xs : List α) : Prop := ∀ (c : Ct) (i : Nat) (B H : Hp) (ks : List Addr) (os : List Cs), c.K = K → Same B2 B → Wd c B H ks os →
  (∀ x, xs[i]? = some x → J.go i H ∧ ∀ v H', J.yld i H v H' → ∃ B', Same B B' ∧ Wd c B' H' ks os ∧ R.r K B' v x) ∧ (xs.length ≤ i → J.stop i H)
def EvI (c : Ct) (wi : TI) (σ : L2.St) (B : Hp) (ks : List Addr) (os os' : List Cs) {α : Type} (R : Rl α) (xs : List α) : Prop :=
  ∀ B1 H1, Same B B1 → Wd c B1 H1 ks os → ∀ Rk : It → Hp → Prop, (∀ J B2 H2, Same B1 B2 → Wd c B2 H2 ks os' → IterSpec c.K J B2 R xs → Rk J H2) → wi σ H1 Rk
theorem ei_list (h : Ev c te σ B ks o1 o2 ((rLst R).s c.K xs)) : EvI c (iList c.K te) σ B ks o1 o2 R xs := fun B1 H1 e w Rk q =>
  h B1 H1 e w _ fun v B2 H2 e2 w2 ⟨p, vs, a, b, d⟩ => by
    subst a
    refine ⟨p, rfl, ⟨vs, SqL.of (w2.ex _ _ b)⟩, q _ B2 H2 e2 w2 fun c' i B3 H3 ks3 os3 _ e3 w3 => ⟨fun x hx => ?_, fun hl => ⟨vs, SqL.of (w3.ex _ _ (e3 _ _ b)), by rw [plen d]; exact hl⟩⟩⟩
    obtain ⟨u, hu, ru⟩ := pget d hx
    have hp := SqL.of (K := c.K) (w3.ex _ _ (e3 _ _ b))
    refine ⟨⟨vs, u, hp, hu⟩, fun y H' hy => ?_⟩
    obtain ⟨rfl, hy⟩ := hy
    have hv := hy vs hp
    rw [hu] at hv; cases hv
    exact ⟨B3, Same.refl _, w3, R.mono e3 ru⟩
theorem ei_tup (h : Ev c te σ B ks o1 o2 ((rTpl R).s c.K xs)) : EvI c (iTup c.K te) σ B ks o1 o2 R xs := fun B1 H1 e w Rk q =>
  h B1 H1 e w _ fun v B2 H2 e2 w2 ⟨p, vs, a, b, d⟩ => by
    subst a
    refine ⟨p, rfl, ⟨vs, sqt_same w2.ex b⟩, q _ B2 H2 e2 w2 fun c' i B3 H3 ks3 os3 _ e3 w3 => ⟨fun x hx => ?_, fun hl => ⟨vs, sqt_same (e3.trans w3.ex) b, by rw [plen d]; exact hl⟩⟩⟩
    obtain ⟨u, hu, ru⟩ := pget d hx
    have hp := sqt_same (e3.trans w3.ex) b
    refine ⟨⟨vs, u, hp, hu⟩, fun y H' hy => ?_⟩
    obtain ⟨rfl, hy⟩ := hy
    have hv := hy vs hp
    rw [hu] at hv; cases hv
    exact ⟨B3, Same.refl _, w3, R.mono e3 ru⟩
/-- lo, lo + 1, .. below hi -/
def rangeI (lo hi : Int) : List Int := (List.range (hi - lo).toNat).map fun (k : Nat) => lo + (k : Int)
theorem it_range {K : Fg} {B2 : Hp} (lo : Int) (n : Nat) : IterSpec K (Itr lo n) B2 rInt ((List.range n).map fun (k : Nat) => lo + (k : Int)) := fun c i B3 H3 ks3 os3 _ _ w3 => by
  refine ⟨fun x hx => ?_, fun hl => ?_⟩
  · rw [List.getElem?_map] at hx
    cases hr : (List.range n)[i]? with
    | none => rw [hr] at hx; cases hx
    | some k =>
      rw [hr] at hx; cases hx
      obtain ⟨hi, rfl⟩ := List.getElem?_eq_some_iff.mp hr
      rw [List.length_range] at hi
      refine ⟨hi, fun v H' hy => ?_⟩
      obtain ⟨rfl, rfl⟩ := hy
      exact ⟨B3, Same.refl _, w3, by rw [List.getElem_range]; rfl⟩
  · rw [List.length_map, List.length_range] at hl
    exact hl
theorem ei_rng1 {n : Int} {tl : TA} (h : EvA c tl σ B ks o1 o2 [rInt.s c.K n]) (hn : -(2 ^ 62) ≤ n ∧ n < 2 ^ 62) : EvI c (iRng1 tl) σ B ks o1 o2 rInt (rangeI 0 n) := fun B1 H1 e w Rk q =>
  h B1 H1 e w _ fun vs B2 H2 e2 w2 ss => by
    cases ss with
    | cons h1 t => cases t with
      | nil =>
        cases (show _ = V.int n from h1)
        have z := it_range (K := c.K) (B2 := B2) 0 (n - 0).toNat
        rw [Int.sub_zero] at z
        refine ⟨n, rfl, hn.1, hn.2, q _ B2 H2 e2 w2 ?_⟩
        unfold rangeI
        rw [Int.sub_zero]
        exact z
theorem ei_rng2 {m n : Int} {tl : TA} (h : EvA c tl σ B ks o1 o2 [rInt.s c.K m, rInt.s c.K n]) (hn : -(2 ^ 62) ≤ m ∧ m < 2 ^ 62 ∧ -(2 ^ 62) ≤ n ∧ n < 2 ^ 62) : EvI c (iRng2 tl) σ B ks o1 o2 rInt (rangeI m n) := fun B1 H1 e w Rk q =>
  h B1 H1 e w _ fun vs B2 H2 e2 w2 ss => by
    cases ss with
    | cons h1 t => cases t with
      | cons h2 t => cases t with
        | nil =>
          cases (show _ = V.int m from h1); cases (show _ = V.int n from h2)
          exact ⟨m, n, rfl, hn, q _ B2 H2 e2 w2 (it_range m _)⟩
/-! ### for -/
inductive Ctl (ρ τ : Type) where
  | nx (r : ρ)
  | bk (r : ρ)
  | rt (t : τ)
def forL {α ρ τ : Type} (f : α → ρ → Option (Ctl ρ τ)) : List α → ρ → Option (Ctl ρ τ)
  | [], r => some (.nx r)
  | x :: xs, r => match f x r with
    | some (.nx r') => forL f xs r'
    | some (.bk r') => some (.nx r')
    | some (.rt t) => some (.rt t)
    | none => none
theorem s_for {ρ τ : Type} {wi : TI} {g : TG} {oo : ρ → List Cs} {ρ0 : ρ} (f : α → ρ → Option (Ctl ρ τ)) (J : ρ → L2.St → Hp → Prop) (Fin : Option (Ctl ρ τ) → Prop) (w : Wd c B H ks o1) (hi : EvI (c.at H) wi σ B ks o1 (oo ρ0) R xs)
    (jm : ∀ ρ σ' B1 B2, Same B1 B2 → J ρ σ' B1 → J ρ σ' B2) (j0 : ∀ B2, Same B B2 → J ρ0 σ B2) (fin0 : Fin (forL f xs ρ0))
    (step : ∀ x rest ρ v σ' B' H', Same B B' → Wd c B' H' ks (oo ρ) → J ρ σ' B' → R.r c.K B' v x → Fin (forL f (x :: rest) ρ) → ∀ N : L2.St → Hp → Prop, (∀ ρ' σ2 B2 H2, f x ρ = some (.nx ρ') → Same B' B2 → Wd c B2 H2 ks (oo ρ') → J ρ' σ2 B2 → N σ2 H2) →
      (∀ ρ σ' B' H', Same B B' → Wd c B' H' ks (oo ρ) → J ρ σ' B' → Fin (some (.nx ρ)) → D.nx σ' H') → g v σ' H' fun σ2 H2 => tS { D with nx := N, ct := N, bk := D.nx } σ2 H2)
    (done : ∀ ρ σ' B' H', Same B B' → Wd c B' H' ks (oo ρ) → J ρ σ' B' → Fin (some (.nx ρ)) → D.nx σ' H') : tFor wi g tS D σ H :=
  hi B H (Same.refl _) w.at _ fun It B2 H2 e2 w2 sp => by
    refine ⟨fun i m σ' H' => m = xs.length - i ∧ i ≤ xs.length ∧ ∃ ρ B', Same B B' ∧ Same B2 B' ∧ Wd c B' H' ks (oo ρ) ∧ J ρ σ' B' ∧ Fin (forL f (xs.drop i) ρ), ⟨_, rfl, Nat.zero_le _, ρ0, B2, e2, Same.refl _, w.un w2, j0 B2 e2, fin0⟩, ?_⟩
    rintro i m σ' H' ⟨rfl, hil, ρ, B', e, e3, w3, hj, hf⟩
    obtain ⟨s1, s2⟩ := sp c i B' H' ks (oo ρ) rfl e3 w3
    by_cases hlt : i < xs.length
    · have hx : xs[i]? = some xs[i] := List.getElem?_eq_getElem hlt
      obtain ⟨go, yl⟩ := s1 _ hx
      rw [List.drop_eq_getElem_cons hlt] at hf
      refine .inr ⟨go, fun σ2 H2 => ∃ ρ' B'', f xs[i] ρ = some (.nx ρ') ∧ Same B B'' ∧ Same B2 B'' ∧ Wd c B'' H2 ks (oo ρ') ∧ J ρ' σ2 B'', ?_, ?_⟩
      · rintro σ2 H2 ⟨ρ', B'', hfx, e4, e5, w4, j4⟩
        refine ⟨xs.length - (i + 1), by omega, rfl, hlt, ρ', B'', e4, e5, w4, j4, ?_⟩
        unfold forL at hf
        rw [hfx] at hf
        exact hf
      · intro v H'' hy
        obtain ⟨B3, e6, w6, r6⟩ := yl v H'' hy
        exact step _ _ ρ v σ' B3 H'' (e.trans e6) w6 (jm _ _ _ _ e6 hj) r6 hf _ (fun ρ' σ2 B4 H4 hfx e7 w7 j7 => ⟨ρ', B4, hfx, (e.trans e6).trans e7, (e3.trans e6).trans e7, w7, j7⟩) done
    · have e : i = xs.length := by omega
      subst e
      rw [List.drop_length] at hf
      exact .inl ⟨s2 (Nat.le_refl _), done ρ σ' B' H' (by assumption) w3 hj hf⟩
/-! ### while -/
def whF {ρ τ : Type} (f : ρ → Option (Option (Ctl ρ τ))) : Nat → ρ → Option (Ctl ρ τ)
  | 0, _ => none
  | n + 1, r => match f r with
    | some none => some (.nx r)
    | some (some (.nx r')) => whF f n r'
    | some (some (.bk r')) => some (.nx r')
    | some (some (.rt t)) => some (.rt t)
    | none => none
theorem s_while {ρ τ : Type} {oo : ρ → List Cs} {ρ0 : ρ} {fuel : Nat} (f : ρ → Option (Option (Ctl ρ τ))) (J : ρ → L2.St → Hp → Prop) (Fin : Option (Ctl ρ τ) → Prop) (w : Wd c B H ks (oo ρ0))
    (j0 : J ρ0 σ B) (fin0 : Fin (whF f fuel ρ0)) (no : ¬ Fin none)
    (done : ∀ ρ σ' B' H', Same B B' → Wd c B' H' ks (oo ρ) → J ρ σ' B' → Fin (some (.nx ρ)) → D.nx σ' H')
    (step : ∀ n ρ σ' B' H', Same B B' → Wd c B' H' ks (oo ρ) → J ρ σ' B' → Fin (whF f (n + 1) ρ) → ∃ b os2, EvT (c.at H') tt σ' B' ks (oo ρ) os2 b ∧
      (b = true → ∀ B1 H1, Same B' B1 → Wd c B1 H1 ks os2 → ∀ N : L2.St → Hp → Prop, (∀ ρ' σ2 B2 H2, f ρ = some (some (.nx ρ')) → Same B' B2 → Wd c B2 H2 ks (oo ρ') → J ρ' σ2 B2 → N σ2 H2) → tS { D with nx := N, ct := N, bk := D.nx } σ' H1) ∧
      (b = false → ∃ ρ', os2 = oo ρ' ∧ Fin (some (.nx ρ')) ∧ ∀ B1, Same B' B1 → J ρ' σ' B1)) : tWhile tt tS D σ H := by
  refine ⟨fun m σ' H' => ∃ ρ B', Same B B' ∧ Wd c B' H' ks (oo ρ) ∧ J ρ σ' B' ∧ Fin (whF f m ρ), ⟨fuel, ρ0, B, Same.refl _, w, j0, fin0⟩, ?_⟩
  rintro m σ' H' ⟨ρ, B', e, w3, hj, hf⟩
  cases m with
  | zero => exact absurd hf no
  | succ m =>
    obtain ⟨b, os2, ht, k1, k2⟩ := step m ρ σ' B' H' e w3 hj hf
    refine ht B' H' (Same.refl _) w3.at _ fun B1 H1 e1 w1 => ?_
    cases b with
    | false =>
      obtain ⟨ρ', eo, f1, j1⟩ := k2 rfl
      subst eo
      exact done ρ' σ' B1 H1 (e.trans e1) (w3.un w1) (j1 B1 e1) f1
    | true =>
      refine ⟨fun σ2 H2 => ∃ ρ' B'', f ρ = some (some (.nx ρ')) ∧ Same B B'' ∧ Wd c B'' H2 ks (oo ρ') ∧ J ρ' σ2 B'', ?_, k1 rfl B1 H1 e1 (w3.un w1) _ fun ρ' σ2 B4 H4 hfx e7 w7 j7 => ⟨ρ', B4, hfx, e.trans e7, w7, j7⟩⟩
      rintro σ2 H2 ⟨ρ', B'', hfx, e4, w4, j4⟩
      refine ⟨m, Nat.lt_succ_self _, ρ', B'', e4, w4, j4, ?_⟩
      unfold whF at hf
      rw [hfx] at hf
      exact hf
/-- what follows a loop, or what it hands back -/
def finK {ρ τ δ : Type} (k : ρ → Option δ) (kr : τ → Option δ) : Option (Ctl ρ τ) → Option δ
  | some (.nx r) => k r
  | some (.bk r) => k r
  | some (.rt t) => kr t
  | none => none
theorem forL_step {α ρ τ δ : Type} {k : ρ → Option δ} {kr : τ → Option δ} {f : α → ρ → Option (Ctl ρ τ)} {x : α} {rest : List α} {r : ρ} {z : δ} (h : finK k kr (forL f (x :: rest) r) = some z) :
    ∃ ctl, f x r = some ctl ∧ (∀ r', ctl = .bk r' → finK k kr (some (.nx r')) = some z) ∧ ∀ t, ctl = .rt t → kr t = some z := by
  unfold forL at h
  cases hf : f x r with
  | none => rw [hf] at h; cases h
  | some ctl =>
    rw [hf] at h
    refine ⟨ctl, rfl, fun r' e => ?_, fun t e => ?_⟩
    · subst e; exact h
    · subst e; exact h
theorem whF_step {ρ τ δ : Type} {k : ρ → Option δ} {kr : τ → Option δ} {f : ρ → Option (Option (Ctl ρ τ))} {n : Nat} {r : ρ} {z : δ} (h : finK k kr (whF f (n + 1) r) = some z) :
    ∃ o, f r = some o ∧ (o = none → finK k kr (some (.nx r)) = some z) ∧ (∀ r', o = some (.bk r') → finK k kr (some (.nx r')) = some z) ∧ ∀ t, o = some (.rt t) → kr t = some z := by
  unfold whF at h
  cases hf : f r with
  | none => rw [hf] at h; cases h
  | some o =>
    rw [hf] at h
    refine ⟨o, rfl, fun e => ?_, fun r' e => ?_, fun t e => ?_⟩
    · subst e; exact h
    · subst e; exact h
    · subst e; exact h
theorem s_ifJ {ρ : Type} {ks2 : List Addr} {oo : ρ → List Cs} {b : Bool} (J : ρ → L2.St → Hp → Prop) (Fin : ρ → Prop) (w : Wd c B H ks o1) (h : EvT (c.at H) tt σ B ks o1 o2 b)
    (done : ∀ ρ σ' B' H', Same B B' → Wd c B' H' ks2 (oo ρ) → J ρ σ' B' → Fin ρ → D.nx σ' H')
    (k1 : b = true → ∀ B2 H2, Same B B2 → Wd c B2 H2 ks o2 → ∀ N : L2.St → Hp → Prop, (∀ ρ σ' B' H', Same B B' → Wd c B' H' ks2 (oo ρ) → J ρ σ' B' → Fin ρ → N σ' H') → tS { D with nx := N } σ H2)
    (k2 : b = false → ∀ B2 H2, Same B B2 → Wd c B2 H2 ks o2 → ∀ N : L2.St → Hp → Prop, (∀ ρ σ' B' H', Same B B' → Wd c B' H' ks2 (oo ρ) → J ρ σ' B' → Fin ρ → N σ' H') → uS { D with nx := N } σ H2) : tIfS tt tS uS D σ H :=
  s_if w h (fun hb B2 H2 e w2 => k1 hb B2 H2 e w2 D.nx done) fun hb B2 H2 e w2 => k2 hb B2 H2 e w2 D.nx done
/-! ### comprehensions -/
def lcM {α β ρ : Type} (tf : α → ρ → Option (Bool × ρ)) (ef : α → ρ → Option (β × ρ)) : List α → ρ → Option (List β × ρ)
  | [], r => some ([], r)
  | x :: xs, r => match tf x r with
    | none => none
    | some (false, r1) => lcM tf ef xs r1
    | some (true, r1) => match ef x r1 with
      | none => none
      | some (y, r2) => match lcM tf ef xs r2 with
        | none => none
        | some (ys, r3) => some (y :: ys, r3)
def lcO {α β ρ : Type} (tf : α → ρ → Option (Bool × ρ)) (ef : α → ρ → Option (β × ρ)) (xs : List α) (r : ρ) : Option (List β × ρ) := if xs.length ≤ 1000000 then lcM tf ef xs r else none
theorem ev_lc {ρ : Type} {wi : TI} {g : TG} {vs : List Nat} {oo : ρ → List Cs} {ρ0 : ρ} {R' : Rl β} {z : List β × ρ} (tf : α → ρ → Option (Bool × ρ)) (ef : α → ρ → Option (β × ρ)) (T : α → Hp → L2.St → Prop) (hi : EvI c wi σ B ks o1 (oo ρ0) R xs) (hz : lcO tf ef xs ρ0 = some z)
    (tm : ∀ x B1 B2 σ2, Same B1 B2 → T x B1 σ2 → T x B2 σ2)
    (hg : ∀ v x B' H' (ks' : List Addr) (os' : List Cs), Wd c B' H' ks' os' → R.r c.K B' v x → ∀ P : L2.St → Hp → Prop, (∀ σ2, wipe σ2 vs = wipe σ vs → T x B' σ2 → P σ2 H') → g v (wipe σ vs) H' P)
    (ht : ∀ x r b r1 σ2 B' p acc, tf x r = some (b, r1) → Same B B' → T x B' σ2 → EvT c tt σ2 B' (p :: ks) (CL R' c.K acc :: oo r) (CL R' c.K acc :: oo r1) b)
    (he : ∀ x r y r1 σ2 B' p acc, ef x r = some (y, r1) → Same B B' → T x B' σ2 → Ev c te σ2 B' (p :: ks) (CL R' c.K acc :: oo r) (CL R' c.K acc :: oo r1) (R'.s c.K y)) :
    Ev c (tLc wi g tt te vs) σ B ks o1 (oo z.2) (SN R' c.K c.Hs z.1) := fun B1 H1 e1 w1 Q q => by
  unfold lcO at hz
  split at hz
  · rename_i hl
    refine hi B1 H1 e1 w1 _ fun It B2 H2 e2 w2 sp => ?_
    intro Dl hn
    have w3 : Wd c B2 (upd H2 Dl (.lst [])) (Dl :: ks) (CL R' c.K [] :: oo ρ0) := w2.own_new hn rfl ⟨[], rfl, .nil⟩
    have n0 : c.H0 Dl = none := w2.new0 hn
    have ns : c.Hs Dl = none := w2.news hn
    refine ⟨fun i m H' => m = xs.length - i ∧ i ≤ xs.length ∧ ∃ r acc B', Same B B' ∧ Same B2 B' ∧ Wd c B' H' (Dl :: ks) (CL R' c.K acc :: oo r) ∧ acc.length ≤ i ∧ ∃ u, lcM tf ef (xs.drop i) r = some u ∧ z = (acc ++ u.1, u.2), ⟨_, rfl, Nat.zero_le _, ρ0, [], B2, e1.trans e2, Same.refl _, w3, Nat.zero_le _, z, hz, rfl⟩, ?_⟩
    rintro i m H' ⟨rfl, hil, r, acc, B', e, e3, w, hacc, u, hu, hzz⟩
    obtain ⟨s1, s2⟩ := sp c i B' H' _ _ rfl e3 w
    by_cases hlt : i < xs.length
    · have hx : xs[i]? = some xs[i] := List.getElem?_eq_getElem hlt
      obtain ⟨go, yl⟩ := s1 _ hx
      rw [List.drop_eq_getElem_cons hlt] at hu
      refine .inr ⟨go, fun H' => ∃ r acc B', Same B B' ∧ Same B2 B' ∧ Wd c B' H' (Dl :: ks) (CL R' c.K acc :: oo r) ∧ acc.length ≤ i + 1 ∧ ∃ u, lcM tf ef (xs.drop (i + 1)) r = some u ∧ z = (acc ++ u.1, u.2), ?_, ?_⟩
      · rintro H3 ⟨r, acc, B', a1, a2, a3, a4, a5⟩
        exact ⟨xs.length - (i + 1), by omega, rfl, hlt, r, acc, B', a1, a2, a3, a4, a5⟩
      · intro v H'' hy
        obtain ⟨B3, e6, w6, r6⟩ := yl v H'' hy
        refine hg v _ B3 H'' _ _ w6 r6 _ fun σ2 hw hT => ⟨hw, ?_⟩
        unfold lcM at hu
        cases htf : tf xs[i] r with
        | none => rw [htf] at hu; cases hu
        | some br =>
          obtain ⟨b, r1⟩ := br
          rw [htf] at hu
          refine ht _ r b r1 σ2 B3 Dl acc htf (e.trans e6) hT B3 H'' (Same.refl _) w6 _ fun B4 H4 e7 w7 => ?_
          cases b with
          | false =>
            show ∃ r acc B', _
            exact ⟨r1, acc, B4, (e.trans e6).trans e7, (e3.trans e6).trans e7, w7, by omega, u, hu, hzz⟩
          | true =>
            rw [if_pos rfl]
            simp only at hu
            cases hef : ef xs[i] r1 with
            | none => rw [hef] at hu; cases hu
            | some yr =>
              obtain ⟨y, r2⟩ := yr
              rw [hef] at hu
              simp only at hu
              cases hr : lcM tf ef (xs.drop (i + 1)) r2 with
              | none => rw [hr] at hu; cases hu
              | some u2 =>
                obtain ⟨ys, r3⟩ := u2
                rw [hr] at hu
                simp only at hu
                cases hu
                refine he _ r1 y r2 σ2 B4 Dl acc hef ((e.trans e6).trans e7) (tm _ _ _ _ e7 hT) B4 H4 (Same.refl _) w7 _ fun y' B5 H5 e8 w8 sy => ?_
                obtain ⟨o, h5, _, _, av, rfl, d⟩ := w8.cell.get (i := 0) rfl rfl
                refine ⟨av, h5, by rw [plen d, sizeLine_eq]; omega, r2, acc ++ [y], B5, ((e.trans e6).trans e7).trans e8, ((e3.trans e6).trans e7).trans e8, w8.put (s := CL R' c.K (acc ++ [y])) 0 rfl rfl ⟨_, rfl, papp d (.cons sy .nil)⟩, by rw [List.length_append]; simp; omega, (ys, r3), hr, ?_⟩
                rw [hzz, List.append_assoc]
                rfl
    · have ei : i = xs.length := by omega
      subst ei
      rw [List.drop_length] at hu
      cases hu
      refine .inl ⟨s2 (Nat.le_refl _), ?_⟩
      obtain ⟨o, h5, ⟨av, rfl, d⟩, up, w5⟩ := w.freeze n0
      have := q (.ref Dl) _ H' ((e3.trans up) |> fun z => (e2.trans z)) (by rw [hzz]; exact w5) (by
        rw [hzz]
        show ∃ p vs, _
        exact ⟨Dl, av, rfl, ns, upd_same, by rw [List.append_nil]; exact pmap d fun _ _ q => R'.mono up q⟩)
      exact this
  · cases hz
end
end Dl

/-! Ev4 -/
set_option Elab.async false
set_option linter.all false
set_option maxRecDepth 100000
set_option maxHeartbeats 2000000
namespace Dl
open PySem PySem.Spec L2
/-! ### promises of defs -/
/-- what is raised: a class with a field that holds an int, or none -/
inductive Xc where
  | one (cls fld : Str) (n : Int)
  | nul (cls : Str)
  deriving DecidableEq
/-- ga: where the module's classes stand -/
def XR (ga : Str → Addr) (x : Xc) (cls : Value) (d : Option Addr) (B : Hp) : Prop := match x with
  | .one k f n => cls = .ref (ga k) ∧ ∃ a, d = some a ∧ B a = some (.xd [(f, .int n)])
  | .nul k => cls = .ref (ga k) ∧ d = none
theorem XR.mono {ga : Str → Addr} {x : Xc} {cls : Value} {d : Option Addr} {B B' : Hp} (h : XR ga x cls d B) (e : ∀ a o, B a = some o → isM o = false → B' a = some o) : XR ga x cls d B' := by
  cases x with
  | one k f n =>
    obtain ⟨a, b, z1, z2⟩ := h
    exact ⟨a, b, z1, e _ _ z2 rfl⟩
  | nul k => exact h
theorem imm_hids {c : Ct} {B H B' H' : Hp} {ks : List Addr} {os : List Cs} (w : Wd c B H ks os) (st : Stp [] (expo ks H B) H B' H') : ∀ a o, B' a = some o → isM o = false → (if a ∈ ks then none else B' a) = some o := fun a o h m => by
  rw [if_neg (fun ha => ?_)]
  · exact h
  · obtain ⟨_, o2, h2, h3⟩ := w.cell.off a ha
    have z := st.old a (by rw [h2]; exact fun z => nomatch z)
    rw [expo_in ha, h2, h] at z
    cases z
    rw [h3] at m; cases m
abbrev Rs (α : Type) := Option (Except Xc α)
/-- nothing is handed in to be changed; the answer is new (f) -/
def Pr0 {γ δ : Type} (K : Fg) (as : γ → List Sv) (m : γ → Option δ) (Rr : Rl δ) : Sp := fun vs H Q _ => ∃ g y B, Paired (fun v S => Sv.p S v B) vs (as g) ∧ Same B H ∧ m g = some y ∧
  ∀ v B' H', Stp [] B H B' H' → Same B' H' → Rr.f K H B' v y → Q v H'
/-- the same, the answer may be a part of what is handed in -/
def Pr0a {γ δ : Type} (K : Fg) (as : γ → List Sv) (m : γ → Option δ) (Rr : Rl δ) : Sp := fun vs H Q _ => ∃ g y B, Paired (fun v S => Sv.p S v B) vs (as g) ∧ Same B H ∧ m g = some y ∧
  ∀ v B' H', Stp [] B H B' H' → Same B' H' → Rr.r K B' v y → Q v H'
/-- it may raise -/
def PrX {γ δ : Type} (K : Fg) (ga : Str → Addr) (as : γ → List Sv) (m : γ → Rs δ) (Rr : Rl δ) : Sp := fun vs H Q E => ∃ g y B, Paired (fun v S => Sv.p S v B) vs (as g) ∧ Same B H ∧ m g = some y ∧
  match y with
  | .ok y => ∀ v B' H', Stp [] B H B' H' → Same B' H' → Rr.f K H B' v y → Q v H'
  | .error x => ∀ cls d B' H', Stp [] B H B' H' → Same B' H' → XR ga x cls d B' → E cls d H'
/-- one thing is handed in to be changed, at p -/
def Pr1 {γ δ ε : Type} (K : Fg) (as : γ → Addr → List Sv) (Ci : γ → Cs) (m : γ → Option (δ × ε)) (Co : ε → Cs) (Rr : Rl δ) : Sp := fun vs H Q _ => ∃ g p z B o, Paired (fun v S => Sv.p S v B) vs (as g p) ∧ Same B H ∧ H p = some o ∧ B p = none ∧ isM o = true ∧ (Ci g).p B o ∧ m g = some z ∧
  ∀ v B' H' o', Stp [p] B H B' H' → Same B' H' → H' p = some o' → isM o' = true → (Co z.2).p B' o' → Rr.f K H B' v z.1 → Q v H'
section
variable {c : Ct} {te ta tb : TE} {tt tu : TT} {tl tr : TA} {σ : L2.St} {B H : Hp} {ks : List Addr} {os o1 o2 o3 : List Cs} {S T U : Sv} {Ss Ts : List Sv} {i : Nat} {v : V} {r : R2} {α β : Type} {R : Rl α} {xs ys : List α} {x y : α} {q : Addr}
/-- arguments, as the callee reads them, the cells ks' laid open -/
def ALe (c : Ct) (ks : List Addr) (os : List Cs) (ks' : List Addr) (Ss Ts : List Sv) : Prop := ∀ B H, Wd c B H ks os → Paired (fun S T => ∀ v, Sv.p S v B → Sv.p T v (expo ks' H B)) Ss Ts
variable {ks' : List Addr}
theorem al_nil : ALe c ks os ks' [] [] := fun _ _ _ => .nil
theorem al_p {Ss Ts : List Sv} (hs : ∀ a ∈ ks', a ∈ ks) (h : ALe c ks os ks' Ss Ts) : ALe c ks os ks' (S :: Ss) (S :: Ts) := fun B H w => .cons (fun v z => S.mono (expo_same w hs) z) (h B H w)
theorem al_le {Ss Ts : List Sv} (k : Sle S T) (hs : ∀ a ∈ ks', a ∈ ks) (h : ALe c ks os ks' Ss Ts) : ALe c ks os ks' (S :: Ss) (T :: Ts) := fun B H w => .cons (fun v z => T.mono (expo_same w hs) (k _ _ z)) (h B H w)
theorem al_o {Ss Ts : List Sv} (i : Nat) (hk : ks[i]? = some q) (ho : os[i]? = some (CL R c.K xs)) (hm : q ∈ ks') (hs : ∀ a ∈ ks', a ∈ ks) (h : ALe c ks os ks' Ss Ts) : ALe c ks os ks' (SA q :: Ss) ((rLst R).s c.K xs :: Ts) := fun B H w => .cons (fun v z => by
  obtain ⟨o, h1, _, _, vs, rfl, d⟩ := w.cell.get hk ho
  exact ⟨q, vs, z, by rw [expo_in hm]; exact h1, pmap d fun _ _ y => R.mono (expo_same w hs) y⟩) (h B H w)
theorem p_le {P : Sv → Sv → Prop} {B B' : Hp} {vs : List V} : ∀ {vs : List V} {Ss Ts : List Sv}, Paired (fun v S => Sv.p S v B) vs Ss → Paired (fun S T => ∀ v, Sv.p S v B → Sv.p T v B') Ss Ts → Paired (fun v S => Sv.p S v B') vs Ts
  | _, _, _, .nil, .nil => .nil
  | _, _, _, .cons a b, .cons d e => .cons (d _ a) (p_le (P := P) (vs := vs) b e)
def hids (ks : List Addr) (B : Hp) : Hp := fun a => if a ∈ ks then none else B a
theorem hids_in {ks : List Addr} {B : Hp} {a : Addr} (h : a ∈ ks) : hids ks B a = none := if_pos h
theorem hids_off {ks : List Addr} {B : Hp} {a : Addr} (h : a ∉ ks) : hids ks B a = B a := if_neg h
/-- behind a call that changes nothing -/
theorem after0 {B' H' : Hp} (w : Wd c B H ks os) (st : Stp [] (expo ks H B) H B' H') (ex : Same B' H') : Same B (hids ks B') ∧ Wd c (hids ks B') H' ks os ∧ ∀ {δ : Type} (Rr : Rl δ) v y, Rr.f c.K H B' v y → Rr.f c.K H (hids ks B') v y := by
  have sm := expo_same w (ks' := ks) fun _ z => z
  have up : Same B (hids ks B') := fun a o h => by
    have n : a ∉ ks := fun m => by rw [w.off m] at h; cases h
    rw [hids_off n]
    exact st.up a o (sm a o h)
  refine ⟨up, ⟨fun a o h => ?_, w.nd, ?_, w.own, w.st.trans ⟨up, fun a h => ?_, fun a o h _ => st.keep a o h (by simp), st.tr⟩, fun a h => st.tr a (w.hs a h)⟩, fun Rr v y h => Rr.ftr (fun a o z m => ?_) h⟩
  · by_cases m : a ∈ ks
    · rw [hids_in m] at h; cases h
    · rw [hids_off m] at h; exact ex a o h
  · have : ∀ {ks2 : List Addr} {os : List Cs}, (∀ a ∈ ks2, a ∈ ks) → Cel B H ks2 os → Cel (hids ks B') H' ks2 os := by
      intro ks2 os hm t
      induction t with
      | nil => exact .nil
      | cons a b ih =>
        obtain ⟨o2, q1, q2, q3, q4⟩ := a
        exact .cons ⟨o2, st.keep _ _ q1 (by simp), hids_in (hm _ List.mem_cons_self), q3, Cs.mono _ up q4⟩ (ih fun a h => hm a (List.mem_cons_of_mem _ h))
    exact this (fun _ z => z) w.cell
  · by_cases m : a ∈ ks
    · rw [hids_in m, w.off m]
    · rw [hids_off m, st.old a h, expo_off m]
  · have n : a ∉ ks := fun mm => by
      have hh : B' a = expo ks H B a := st.old a (by obtain ⟨_, o2, h2, _⟩ := w.cell.off a mm; rw [h2]; exact fun z => nomatch z)
      obtain ⟨_, o2, h2, h3⟩ := w.cell.off a mm
      rw [expo_in mm, h2, z] at hh
      cases hh
      rcases m with m | m
      · rw [h3] at m; cases m
      · rw [h2] at m; cases m
    rw [hids_off n]
    exact z
/-- the general end of a call of a def that changes nothing -/
theorem call0 {δ : Type} {Rr : Rl δ} {y : δ} {Q : VK} (w : Wd c B H ks os) (q : ∀ v B2 H2, Same B B2 → Wd c B2 H2 ks os → Rr.f c.K c.Hs B2 v y → Q v H2) : ∀ v B' H', Stp [] (expo ks H B) H B' H' → Same B' H' → Rr.f c.K H B' v y → Q v H' := fun v B' H' st ex r => by
  obtain ⟨up, w2, k⟩ := after0 w st ex
  exact q v _ H' up w2 (Rr.fanti w.hs (k Rr v y r))
theorem ev_call0 {γ δ : Type} {as : γ → List Sv} {m : γ → Option δ} {Rr : Rl δ} {g : γ} {y : δ} {E : XK} {tl : TA} (ha : EvA c tl σ B ks o1 o2 Ss) (hl : ALe c ks o2 ks Ss (as g)) (hm : m g = some y) : Ev c (tCall (Pr0 c.K as m Rr) [] E tl) σ B ks o1 o2 (Rr.g c.K c.Hs y) := fun B1 H1 e w Q q =>
  ha B1 H1 e w _ fun vs B2 H2 e2 w2 ss => by
    show Pr0 c.K as m Rr (vs ++ []) H2 Q E
    rw [List.append_nil]
    exact ⟨g, y, expo ks H2 B2, p_le (P := fun _ _ => True) (vs := []) ss (hl B2 H2 w2), expo_to w2 ks, hm, call0 w2 fun v B3 H3 e3 w3 r => q v B3 H3 (e2.trans e3) w3 r⟩
theorem expo_nil {H B : Hp} : expo [] H B = B := funext fun a => expo_off (by simp)
theorem ev_call0a {γ δ : Type} {as : γ → List Sv} {m : γ → Option δ} {Rr : Rl δ} {g : γ} {y : δ} {E : XK} {tl : TA} (ha : EvA c tl σ B ks o1 o2 Ss) (hl : ALe c ks o2 [] Ss (as g)) (hm : m g = some y) : Ev c (tCall (Pr0a c.K as m Rr) [] E tl) σ B ks o1 o2 (Rr.s c.K y) := fun B1 H1 e w Q q =>
  ha B1 H1 e w _ fun vs B2 H2 e2 w2 ss => by
    show Pr0a c.K as m Rr (vs ++ []) H2 Q E
    rw [List.append_nil]
    have z := hl B2 H2 w2
    rw [expo_nil] at z
    refine ⟨g, y, B2, p_le (P := fun _ _ => True) (vs := []) ss z, w2.ex, hm, fun v B' H' st ex r => q v B' H' (e2.trans st.up) ⟨ex, w2.nd, ?_, w2.own, w2.st.trans ⟨st.up, st.old, fun a o h _ => st.keep a o h (by simp), st.tr⟩, fun a h => st.tr a (w2.hs a h)⟩ r⟩
    exact pmap w2.cell fun a s ⟨o, q1, q2, q3, q4⟩ => ⟨o, st.keep _ _ q1 (by simp), by rw [st.old a (by rw [q1]; exact fun z => nomatch z)]; exact q2, q3, s.mono st.up q4⟩
/-- a def that may raise, where it does not -/
theorem ev_callXok {γ δ : Type} {ga : Str → Addr} {as : γ → List Sv} {m : γ → Rs δ} {Rr : Rl δ} {g : γ} {y : δ} {E : XK} {tl : TA} (ha : EvA c tl σ B ks o1 o2 Ss) (hl : ALe c ks o2 ks Ss (as g)) (hm : m g = some (.ok y)) : Ev c (tCall (PrX c.K ga as m Rr) [] E tl) σ B ks o1 o2 (Rr.g c.K c.Hs y) := fun B1 H1 e w Q q =>
  ha B1 H1 e w _ fun vs B2 H2 e2 w2 ss => by
    show PrX c.K ga as m Rr (vs ++ []) H2 Q E
    rw [List.append_nil]
    exact ⟨g, .ok y, expo ks H2 B2, p_le (P := fun _ _ => True) (vs := []) ss (hl B2 H2 w2), expo_to w2 ks, hm, call0 w2 fun v B3 H3 e3 w3 r => q v B3 H3 (e2.trans e3) w3 r⟩
/-- .. and where it does: what follows, or what is raised -/
theorem callX {γ δ : Type} {ga : Str → Addr} {as : γ → List Sv} {m : γ → Rs δ} {Rr : Rl δ} {g : γ} {x : Xc} {E : XK} {tl : TA} {Q : VK} (w : Wd c B H ks o1) (ha : EvA (c.at H) tl σ B ks o1 o2 Ss) (hl : ALe (c.at H) ks o2 ks Ss (as g)) (hm : m g = some (.error x))
    (er : ∀ cls d B2 H2, Same B B2 → Wd c B2 H2 ks o2 → XR ga x cls d B2 → E cls d H2) : tCall (PrX c.K ga as m Rr) [] E tl σ H Q :=
  ha B H (Same.refl _) w.at _ fun vs B2 H2 e2 w2 ss => by
    show PrX c.K ga as m Rr (vs ++ []) H2 Q E
    rw [List.append_nil]
    refine ⟨g, .error x, expo ks H2 B2, p_le (P := fun _ _ => True) (vs := []) ss (hl B2 H2 w2), expo_to w2 ks, hm, fun cls d B' H' st ex r => ?_⟩
    obtain ⟨up, w3, _⟩ := after0 (w.un w2) st ex
    exact er cls d _ H' (e2.trans up) w3 (r.mono (imm_hids (w.un w2) st))
/-- a def that changes what stands at q, the i-th cell -/
theorem ev_call1 {γ δ ε : Type} {as : γ → Addr → List Sv} {Ci : γ → Cs} {m : γ → Option (δ × ε)} {Co : ε → Cs} {Rr : Rl δ} {g : γ} {z : δ × ε} {E : XK} {tl : TA} (i : Nat) (hk : ks[i]? = some q) (ha : EvA c tl σ B ks o1 o2 Ss) (ho : o2[i]? = some (Ci g)) (hl : ALe c ks o2 (ks.eraseIdx i) Ss (as g q)) (hm : m g = some z) (hC : CsI (Co z.2)) :
    Ev c (tCall (Pr1 c.K as Ci m Co Rr) [] E tl) σ B ks o1 (o2.set i (Co z.2)) (Rr.g c.K c.Hs z.1) := fun B1 H1 e w Q q0 =>
  ha B1 H1 e w _ fun vs B2 H2 e2 w2 ss => by
    show Pr1 c.K as Ci m Co Rr (vs ++ []) H2 Q E
    rw [List.append_nil]
    have sub : ∀ a ∈ ks.eraseIdx i, a ∈ ks := fun a h => List.mem_of_mem_eraseIdx h
    have nq : q ∉ ks.eraseIdx i := fun h => by
      have nd := w2.nd
      obtain ⟨hlt, hq⟩ := List.getElem?_eq_some_iff.mp hk
      obtain ⟨j, hj, hjq⟩ := List.mem_iff_getElem.mp h
      rw [List.getElem_eraseIdx] at hjq
      split at hjq
      · rename_i hji
        have := (List.getElem_inj nd).mp (hjq.trans hq.symm)
        omega
      · rename_i hji
        have := (List.getElem_inj nd).mp (hjq.trans hq.symm)
        omega
    obtain ⟨o, h1, b1, m1, c1⟩ := w2.cell.get hk ho
    have up0 := expo_same w2 sub
    refine ⟨g, q, z, expo (ks.eraseIdx i) H2 B2, o, p_le (P := fun _ _ => True) (vs := []) ss (hl B2 H2 w2), expo_to w2 _, h1, by rw [expo_off nq]; exact b1, m1, Cs.mono _ up0 c1, hm, fun v B' H' o' st ex h' m' c' r => ?_⟩
    have tr2 : ∀ a ∈ ks, H2 a ≠ none := fun a ha => by
      obtain ⟨_, o2', h2, _⟩ := w2.cell.off a ha
      rw [h2]; exact fun z => nomatch z
    have up : Same B2 (hids ks B') := fun a u h => by
      have n : a ∉ ks := fun mm => by rw [w2.off mm] at h; cases h
      rw [hids_off n]
      exact st.up a u (up0 a u h)
    have key : ∀ a, a ∉ ks → ∀ u, B' a = some u → hids ks B' a = some u := fun a n u h => by rw [hids_off n]; exact h
    have im : ∀ a u, B' a = some u → (isM u = false ∨ H2 a = none) → hids ks B' a = some u := fun a u hu mm => by
      refine key a (fun ha => ?_) u hu
      have hh : B' a = expo (ks.eraseIdx i) H2 B2 a := st.old a (tr2 a ha)
      obtain ⟨b0, o2', h2, h3⟩ := w2.cell.off a ha
      by_cases he : a ∈ ks.eraseIdx i
      · rw [expo_in he, h2, hu] at hh
        cases hh
        rcases mm with mm | mm
        · rw [h3] at mm; cases mm
        · rw [h2] at mm; cases mm
      · rw [expo_off he, b0, hu] at hh; cases hh
    have hne : ∀ a ∈ ks, a ≠ q → a ∉ [q] := fun a _ e => by simpa using e
    refine q0 v _ H' (e2.trans up) ⟨fun a u h => ?_, w2.nd, pset2 i w2.nd w2.cell hk (fun a u e ⟨o2', q1, q2, q3, q4⟩ => ?_) ⟨o', h', hids_in (List.mem_of_getElem? hk), m', hC _ _ _ (fun a u h m => im a u h (.inl m)) c'⟩, w2.own, ?_, fun a h => st.tr a (w2.hs a h)⟩ (Rr.fanti w2.hs (Rr.ftr im r))
    · by_cases m : a ∈ ks
      · rw [hids_in m] at h; cases h
      · rw [hids_off m] at h; exact ex a u h
    · exact ⟨o2', st.keep a o2' q1 (by simpa using e), by
        by_cases ma : a ∈ ks
        · exact hids_in ma
        · rw [hids_off ma, st.old a (by rw [q1]; exact fun z => nomatch z), expo_off (fun z => ma (sub a z))]; exact q2, q3, u.mono up q4⟩
    · refine ⟨w2.st.up.trans up, fun a h => ?_, fun a u h n => ?_, fun a h => st.tr a (w2.st.tr a h)⟩
      · have h2 := w2.st.tr a h
        by_cases ma : a ∈ ks
        · rw [hids_in ma, ← w2.st.old a h, w2.off ma]
        · rw [hids_off ma, st.old a h2, expo_off (fun z => ma (sub a z)), w2.st.old a h]
      · refine st.keep a u (w2.st.keep a u h n) fun e => ?_
        rw [List.mem_singleton] at e
        subst e
        rcases w2.own a (List.mem_of_getElem? hk) with z | z
        · exact n z
        · rw [z] at h; cases h
/-! ### a def's body -/
theorem Wd.start {K : Fg} (s : Same B H) : Wd ⟨K, H, B, [], H⟩ B H [] [] := ⟨s, List.nodup_nil, .nil, (fun a h => nomatch h), Stp.refl, fun _ h => h⟩
theorem Wd.start1 {K : Fg} {p : Addr} {o : HO} {s : Cs} (e : Same B H) (h : H p = some o) (n : B p = none) (m : isM o = true) (hs : s.p B o) : Wd ⟨K, H, B, [p], H⟩ B H [p] [s] :=
  ⟨e, by simp, .cons ⟨o, h, n, m, hs⟩ .nil, fun a h => .inl h, Stp.refl, fun _ h => h⟩
/-- the answer of a def: a value -/
theorem r_f {B2 : Hp} (w : Wd c B H ks os) (h : (R.g c.K H x).p v B2) : R.f c.K c.H0 B2 v x := R.fanti w.tr h
theorem r_n {xs : List α} {B2 : Hp} (w : Wd c B H ks os) (hi : Imm R) (h : (SN R c.K H xs).p v B2) : (rLst R).f c.K c.H0 B2 v xs := (rLst R).fanti w.tr (sn_g hi v B2 h)
/-- a cell of one's own is handed back -/
theorem r_o {xs : List α} (w : Wd c B H (q :: ks) (CL R c.K xs :: os)) (n : c.H0 q = none) (hi : Imm R) : ∃ B', Same B B' ∧ Wd c B' H ks os ∧ (rLst R).f c.K c.H0 B' (.ref q) xs := by
  obtain ⟨o, h1, ⟨vs, rfl, d⟩, up, w2⟩ := w.freeze n
  exact ⟨_, up, w2, q, vs, rfl, n, upd_same, pmap d fun _ _ z => hi _ _ _ _ _ (R.mono up z)⟩
theorem r_oa {xs : List α} (w : Wd c B H (q :: ks) (CL R c.K xs :: os)) (n : c.H0 q = none) : ∃ B', Same B B' ∧ Wd c B' H ks os ∧ (rLst R).r c.K B' (.ref q) xs := by
  obtain ⟨o, h1, ⟨vs, rfl, d⟩, up, w2⟩ := w.freeze n
  exact ⟨_, up, w2, q, vs, rfl, upd_same, pmap d fun _ _ z => R.mono up z⟩
end
end Dl

/-! Ev5 -/
set_option Elab.async false
set_option linter.all false
set_option maxRecDepth 100000
set_option maxHeartbeats 2000000
namespace Dl
open PySem PySem.Spec L2
theorem it {α : Type} {b : Bool} {x y : α} {z : α} (hb : b = true) (h : cond b x y = z) : x = z := by subst hb; exact h
theorem ie {α : Type} {b : Bool} {x y : α} {z : α} (hb : b = false) (h : cond b x y = z) : y = z := by subst hb; exact h
theorem ob {α β : Type} {o : Option α} {k : α → Option β} {z : β} (h : o.bind k = some z) : ∃ a, o = some a ∧ k a = some z := Option.bind_eq_some_iff.mp h
abbrev FnP (K : Fg) (x : Str) (st : Stmt) (f : Addr) (fd : FuncData) : Prop := FunD K x x (defArgs st) (defBody st) (defScope st) [] [] f fd
theorem pn1 {F : V → Sv → Prop} {vs : List V} {S0 : Sv} (h : Paired F vs [S0]) : ∃ v0, vs = [v0] ∧ F v0 S0 := by
  cases h with | cons a h => cases h; exact ⟨_, rfl, a⟩
theorem pn2 {F : V → Sv → Prop} {vs : List V} {S0 S1 : Sv} (h : Paired F vs [S0, S1]) : ∃ v0 v1, vs = [v0, v1] ∧ F v0 S0 ∧ F v1 S1 := by
  cases h with | cons a h => obtain ⟨v, rfl, b⟩ := pn1 h; exact ⟨_, _, rfl, a, b⟩
theorem pn3 {F : V → Sv → Prop} {vs : List V} {S0 S1 S2 : Sv} (h : Paired F vs [S0, S1, S2]) : ∃ v0 v1 v2, vs = [v0, v1, v2] ∧ F v0 S0 ∧ F v1 S1 ∧ F v2 S2 := by
  cases h with | cons a h => obtain ⟨v, v', rfl, b, c⟩ := pn2 h; exact ⟨_, _, _, rfl, a, b, c⟩
theorem pn4 {F : V → Sv → Prop} {vs : List V} {S0 S1 S2 S3 : Sv} (h : Paired F vs [S0, S1, S2, S3]) : ∃ v0 v1 v2 v3, vs = [v0, v1, v2, v3] ∧ F v0 S0 ∧ F v1 S1 ∧ F v2 S2 ∧ F v3 S3 := by
  cases h with | cons a h => obtain ⟨v, v', v'', rfl, b, c, d⟩ := pn3 h; exact ⟨_, _, _, _, rfl, a, b, c, d⟩
theorem pn5 {F : V → Sv → Prop} {vs : List V} {S0 S1 S2 S3 S4 : Sv} (h : Paired F vs [S0, S1, S2, S3, S4]) : ∃ v0 v1 v2 v3 v4, vs = [v0, v1, v2, v3, v4] ∧ F v0 S0 ∧ F v1 S1 ∧ F v2 S2 ∧ F v3 S3 ∧ F v4 S4 := by
  cases h with | cons a h => obtain ⟨v, v', v'', v3, rfl, b, c, d, e⟩ := pn4 h; exact ⟨_, _, _, _, _, rfl, a, b, c, d, e⟩
def okO {α : Type} (r : Rs α) : Option α := match r with | some (.ok y) => some y | _ => none
theorem okO_eq {α : Type} {r : Rs α} {y : α} (h : okO r = some y) : r = some (.ok y) := by
  unfold okO at h
  split at h
  · cases h; rfl
  · cases h
def catO {α : Type} (xs ys : List α) : Option (List α) := if xs.length + ys.length ≤ 1000000 then some (xs ++ ys) else none
def rngO (lo hi : Int) : Option (List Int) := if -1000000 ≤ lo ∧ lo ≤ 1000000 ∧ -1000000 ≤ hi ∧ hi ≤ 1000000 then some (rangeI lo hi) else none
theorem rngO_eq {lo hi : Int} {xs : List Int} (h : rngO lo hi = some xs) : (-1000000 ≤ lo ∧ lo ≤ 1000000 ∧ -1000000 ≤ hi ∧ hi ≤ 1000000) ∧ xs = rangeI lo hi := by
  unfold rngO at h
  split at h
  · rename_i hc; cases h; exact ⟨hc, rfl⟩
  · cases h
/-- the ascending arrangement -/
def ins1 (x : Int) : List Int → List Int
  | [] => [x]
  | y :: ys => if x ≤ y then x :: y :: ys else y :: ins1 x ys
def isort : List Int → List Int
  | [] => []
  | x :: xs => ins1 x (isort xs)
theorem ins1_perm (x : Int) : ∀ ys, (ins1 x ys).Perm (x :: ys)
  | [] => .refl _
  | y :: ys => by
    unfold ins1
    split
    · exact .refl _
    · exact ((ins1_perm x ys).cons y).trans (.swap x y ys)
theorem isort_perm : ∀ xs, (isort xs).Perm xs
  | [] => .refl _
  | x :: xs => (ins1_perm x _).trans ((isort_perm xs).cons x)
theorem ins1_sorted (x : Int) : ∀ ys, ys.Pairwise (· ≤ ·) → (ins1 x ys).Pairwise (· ≤ ·)
  | [], _ => by unfold ins1; simp
  | y :: ys, h => by
    unfold ins1
    rw [List.pairwise_cons] at h
    split
    · rename_i hc
      refine List.pairwise_cons.mpr ⟨fun z hz => ?_, List.pairwise_cons.mpr h⟩
      rcases List.mem_cons.mp hz with rfl | hz
      · exact hc
      · exact Int.le_trans hc (h.1 z hz)
    · rename_i hc
      refine List.pairwise_cons.mpr ⟨fun z hz => ?_, ins1_sorted x ys h.2⟩
      rcases List.mem_cons.mp ((ins1_perm x ys).mem_iff.mp hz) with rfl | hz
      · omega
      · exact h.1 z hz
theorem isort_sorted : ∀ xs, (isort xs).Pairwise (· ≤ ·)
  | [] => .nil
  | x :: xs => ins1_sorted x _ (isort_sorted xs)
theorem sorted_unique {xs ys : List Int} (p : xs.Perm ys) (hx : xs.Pairwise (· ≤ ·)) (hy : ys.Pairwise (· ≤ ·)) : xs = ys := p.eq_of_pairwise (fun a b _ _ h1 h2 => Int.le_antisymm h1 h2) hx hy
section
variable {c : Ct} {te ta tb tc : TE} {tt tu : TT} {tl tr : TA} {σ : L2.St} {B H : Hp} {ks : List Addr} {os o1 o2 o3 o4 : List Cs} {S T U : Sv} {Ss : List Sv} {i : Nat} {v : V} {r : R2} {α β : Type} {R : Rl α} {xs ys : List α} {x y : α} {q : Addr}
theorem ev_catO {z : List α} (ha : Ev c ta σ B ks o1 o2 S) (hb : Ev c tb σ B ks o2 o3 T) (hs : SrcL c ks o3 S R xs) (ht : SrcL c ks o3 T R ys) (h : catO xs ys = some z) : Ev c (tOp rCat ta tb) σ B ks o1 o3 (SN R c.K c.Hs z) := by
  unfold catO at h
  split at h
  · rename_i hl; cases h; exact ev_cat ha hb hs ht hl
  · cases h
theorem rgV_eq (a b : Int) : rgV a b = (rangeI a b).map V.int := by
  unfold rgV rangeI
  rw [List.map_map]
  rfl
theorem ev_rg {a b : Int} {te : St → Hp → (Int → Int → Hp → Prop) → Prop} {zs : List Int} (h : rngO a b = some zs) (k : ∀ B1 H1, Same B B1 → Wd c B1 H1 ks o1 → ∀ Q : Int → Int → Hp → Prop, (∀ B2 H2, Same B1 B2 → Wd c B2 H2 ks o2 → Q a b H2) → te σ H1 Q) : Ev c (tLstRg te) σ B ks o1 o2 (SN rInt c.K c.Hs zs) := fun B1 H1 e w Q q => by
  obtain ⟨hb, rfl⟩ := rngO_eq h
  refine k B1 H1 e w _ fun B2 H2 e2 w2 => ⟨⟨by omega, by omega, by omega, by omega, by omega⟩, ?_⟩
  rw [rgV_eq]
  exact new_list w2 (ints_p (c := c) (B := B2) _) fun v B3 H3 e3 w3 z => q v B3 H3 (e2.trans e3) w3 z
theorem ev_listR1 {b : Int} {zs : List Int} (ha : Ev c ta σ B ks o1 o2 (rInt.s c.K b)) (h : rngO 0 b = some zs) : Ev c (tLstRg (tRg1 ta)) σ B ks o1 o2 (SN rInt c.K c.Hs zs) :=
  ev_rg h fun B1 H1 e w Q q => ha B1 H1 e w _ fun v B2 H2 e2 w2 s => ⟨b, s, q B2 H2 e2 w2⟩
theorem ev_listR2 {a b : Int} {zs : List Int} (ha : Ev c ta σ B ks o1 o2 (rInt.s c.K a)) (hb : Ev c tb σ B ks o2 o3 (rInt.s c.K b)) (h : rngO a b = some zs) : Ev c (tLstRg (tRg2 ta tb)) σ B ks o1 o3 (SN rInt c.K c.Hs zs) :=
  ev_rg h fun B1 H1 e w Q q => ha B1 H1 e w _ fun v B2 H2 e2 w2 s => hb B2 H2 (e.trans e2) w2 _ fun v' B3 H3 e3 w3 s' => ⟨a, b, s, s', q B3 H3 (e2.trans e3) w3⟩
theorem ei_r1 {b : Int} {zs : List Int} (ha : Ev c ta σ B ks o1 o2 (rInt.s c.K b)) (h : rngO 0 b = some zs) : EvI c (iRng1 (tCons ta tNil)) σ B ks o1 o2 rInt zs := by
  obtain ⟨hb, rfl⟩ := rngO_eq h
  exact ei_rng1 (ea_cons ha ea_nil) ⟨by omega, by omega⟩
theorem ei_r2 {a b : Int} {zs : List Int} (ha : Ev c ta σ B ks o1 o2 (rInt.s c.K a)) (hb : Ev c tb σ B ks o2 o3 (rInt.s c.K b)) (h : rngO a b = some zs) : EvI c (iRng2 (tCons ta (tCons tb tNil))) σ B ks o1 o3 rInt zs := by
  obtain ⟨hb', rfl⟩ := rngO_eq h
  exact ei_rng2 (ea_cons ha (ea_cons hb ea_nil)) ⟨by omega, by omega, by omega, by omega⟩
theorem ev_sortI {ns : List Int} (ha : Ev c ta σ B ks o1 o2 S) (hs : SrcL c ks o2 S rInt ns) : Ev c (tCB (rSortedI c.K) (tCons ta tNil)) σ B ks o1 o2 (SN rInt c.K c.Hs (isort ns)) :=
  ev_cb1 ha fun x B2 H2 w s Q q => by
    obtain ⟨p, vs, rfl, a, _, d⟩ := hs x B2 H2 w s
    have e := pints d
    subst e
    refine ⟨p, ns, rfl, SqL.of a, fun ns' p' h1 h2 n => ?_⟩
    have e2 : ns' = isort ns := sorted_unique (h1.trans (isort_perm ns).symm) h2 (isort_sorted ns)
    subst e2
    exact new_list w (ints_p (c := c) (B := B2) _) q p' n
theorem ev_min2 {m n : Int} (ha : Ev c ta σ B ks o1 o2 (rInt.s c.K m)) (hb : Ev c tb σ B ks o2 o3 (rInt.s c.K n)) : Ev c (tCB (fun xs H Q => ∃ i j, xs = [.int i, .int j] ∧ Q (.int (if j < i then j else i)) H) (tCons ta (tCons tb tNil))) σ B ks o1 o3 (rInt.s c.K (if n < m then n else m)) := fun B1 H1 e w Q q =>
  ha B1 H1 e w _ fun x B2 H2 e2 w2 s => hb B2 H2 (e.trans e2) w2 _ fun y B3 H3 e3 w3 t => ⟨m, n, by rw [show x = .int m from s, show y = .int n from t], q _ B3 H3 (e2.trans e3) w3 rfl⟩
theorem ev_max2 {m n : Int} (ha : Ev c ta σ B ks o1 o2 (rInt.s c.K m)) (hb : Ev c tb σ B ks o2 o3 (rInt.s c.K n)) : Ev c (tCB (fun xs H Q => ∃ i j, xs = [.int i, .int j] ∧ Q (.int (if j > i then j else i)) H) (tCons ta (tCons tb tNil))) σ B ks o1 o3 (rInt.s c.K (if n > m then n else m)) := fun B1 H1 e w Q q =>
  ha B1 H1 e w _ fun x B2 H2 e2 w2 s => hb B2 H2 (e.trans e2) w2 _ fun y B3 H3 e3 w3 t => ⟨m, n, by rw [show x = .int m from s, show y = .int n from t], q _ B3 H3 (e2.trans e3) w3 rfl⟩
/-- chains -/
theorem ev_ch {g h : Int → Int → Bool} {l m n : Int} (ha : Ev c ta σ B ks o1 o2 (rInt.s c.K l)) (hb : Ev c tb σ B ks o2 o3 (rInt.s c.K m)) (hc : Ev c tc σ B ks o3 o3 (rInt.s c.K n)) : Ev c (tChain (rI0 fun i j => .bl (g i j)) (rI0 fun i j => .bl (h i j)) ta tb tc) σ B ks o1 o3 (rBool.s c.K (g l m && h m n)) := fun B1 H1 e w Q q =>
  ha B1 H1 e w _ fun x B2 H2 e2 w2 s => hb B2 H2 (e.trans e2) w2 _ fun y B3 H3 e3 w3 t => ⟨l, m, s, t, g l m, rfl, by
    cases hg : g l m with
    | true =>
      rw [if_pos rfl]
      exact hc B3 H3 ((e.trans e2).trans e3) w3 _ fun z B4 H4 e4 w4 u => ⟨m, n, t, u, q _ B4 H4 ((e2.trans e3).trans e4) w4 (by rw [hg]; rfl)⟩
    | false =>
      rw [if_neg (by decide)]
      exact q _ B3 H3 (e2.trans e3) w3 (by rw [hg]; rfl)⟩
theorem ev_ch_le_le {l m n : Int} (ha : Ev c ta σ B ks o1 o2 (rInt.s c.K l)) (hb : Ev c tb σ B ks o2 o3 (rInt.s c.K m)) (hc : Ev c tc σ B ks o3 o3 (rInt.s c.K n)) : Ev c (tChain (rI0 fun i j => .bl (decide (i ≤ j))) (rI0 fun i j => .bl (decide (i ≤ j))) ta tb tc) σ B ks o1 o3 (rBool.s c.K (decide (l ≤ m) && decide (m ≤ n))) := ev_ch (g := fun i j => decide (i ≤ j)) (h := fun i j => decide (i ≤ j)) ha hb hc
theorem ev_ch_le_lt {l m n : Int} (ha : Ev c ta σ B ks o1 o2 (rInt.s c.K l)) (hb : Ev c tb σ B ks o2 o3 (rInt.s c.K m)) (hc : Ev c tc σ B ks o3 o3 (rInt.s c.K n)) : Ev c (tChain (rI0 fun i j => .bl (decide (i ≤ j))) (rI0 fun i j => .bl (decide (i < j))) ta tb tc) σ B ks o1 o3 (rBool.s c.K (decide (l ≤ m) && decide (m < n))) := ev_ch (g := fun i j => decide (i ≤ j)) (h := fun i j => decide (i < j)) ha hb hc
theorem ev_ch_lt_lt {l m n : Int} (ha : Ev c ta σ B ks o1 o2 (rInt.s c.K l)) (hb : Ev c tb σ B ks o2 o3 (rInt.s c.K m)) (hc : Ev c tc σ B ks o3 o3 (rInt.s c.K n)) : Ev c (tChain (rI0 fun i j => .bl (decide (i < j))) (rI0 fun i j => .bl (decide (i < j))) ta tb tc) σ B ks o1 o3 (rBool.s c.K (decide (l < m) && decide (m < n))) := ev_ch (g := fun i j => decide (i < j)) (h := fun i j => decide (i < j)) ha hb hc
theorem ev_ch_lt_le {l m n : Int} (ha : Ev c ta σ B ks o1 o2 (rInt.s c.K l)) (hb : Ev c tb σ B ks o2 o3 (rInt.s c.K m)) (hc : Ev c tc σ B ks o3 o3 (rInt.s c.K n)) : Ev c (tChain (rI0 fun i j => .bl (decide (i < j))) (rI0 fun i j => .bl (decide (i ≤ j))) ta tb tc) σ B ks o1 o3 (rBool.s c.K (decide (l < m) && decide (m ≤ n))) := ev_ch (g := fun i j => decide (i < j)) (h := fun i j => decide (i ≤ j)) ha hb hc
/-- and, or with parts or changes behind -/
theorem ev_andO {a b : Bool} (h1 : Ev c ta σ B ks o1 o2 (rBool.s c.K a)) (h2 : a = true → Ev c tb σ B ks o2 o3 (rBool.s c.K b)) (h3 : a = false → b = false ∧ o2 = o3) : Ev c (tAndV ta tb) σ B ks o1 o3 (rBool.s c.K b) := fun B1 H1 e w Q q => h1 B1 H1 e w _ fun v B2 H2 e2 w2 s => ⟨a, s, by
  cases a with
  | true => exact h2 rfl B2 H2 (e.trans e2) w2 Q fun v B3 H3 e3 w3 s => q v B3 H3 (e2.trans e3) w3 s
  | false => obtain ⟨rfl, rfl⟩ := h3 rfl; exact q _ B2 H2 e2 w2 rfl⟩
theorem ev_orO {a b : Bool} (h1 : Ev c ta σ B ks o1 o2 (rBool.s c.K a)) (h2 : a = false → Ev c tb σ B ks o2 o3 (rBool.s c.K b)) (h3 : a = true → b = true ∧ o2 = o3) : Ev c (tOrV ta tb) σ B ks o1 o3 (rBool.s c.K b) := fun B1 H1 e w Q q => h1 B1 H1 e w _ fun v B2 H2 e2 w2 s => ⟨a, s, by
  cases a with
  | true => obtain ⟨rfl, rfl⟩ := h3 rfl; exact q _ B2 H2 e2 w2 rfl
  | false => exact h2 rfl B2 H2 (e.trans e2) w2 Q fun v B3 H3 e3 w3 s => q v B3 H3 (e2.trans e3) w3 s⟩
theorem et_andO {a b : Bool} (h1 : EvT c tt σ B ks o1 o2 a) (h2 : a = true → EvT c tu σ B ks o2 o3 b) (h3 : a = false → b = false ∧ o2 = o3) : EvT c (tAnd tt tu) σ B ks o1 o3 b := fun B1 H1 e w Q q => h1 B1 H1 e w _ fun B2 H2 e2 w2 => by
  cases a with
  | true => exact h2 rfl B2 H2 (e.trans e2) w2 Q fun B3 H3 e3 w3 => q B3 H3 (e2.trans e3) w3
  | false => obtain ⟨rfl, rfl⟩ := h3 rfl; exact q B2 H2 e2 w2
theorem et_orO {a b : Bool} (h1 : EvT c tt σ B ks o1 o2 a) (h2 : a = false → EvT c tu σ B ks o2 o3 b) (h3 : a = true → b = true ∧ o2 = o3) : EvT c (tOr tt tu) σ B ks o1 o3 b := fun B1 H1 e w Q q => h1 B1 H1 e w _ fun B2 H2 e2 w2 => by
  cases a with
  | true => obtain ⟨rfl, rfl⟩ := h3 rfl; exact q B2 H2 e2 w2
  | false => exact h2 rfl B2 H2 (e.trans e2) w2 Q fun B3 H3 e3 w3 => q B3 H3 (e2.trans e3) w3
theorem et_yes : EvT c tYes σ B ks os os true := fun B1 H1 e w Q q => q B1 H1 (Same.refl _) w
theorem ev_ifB {b : Bool} (h : EvT c tt σ B ks o1 o2 b) (h1 : Ev c ta σ B ks o2 o3 (R.s c.K x)) (h2 : Ev c tb σ B ks o2 o3 (R.s c.K y)) : Ev c (tIf tt ta tb) σ B ks o1 o3 (R.s c.K (cond b x y)) :=
  ev_if h (fun hb => by subst hb; exact h1) (fun hb => by subst hb; exact h2)
/-- the truth of a list -/
theorem et_tru (ha : Ev c ta σ B ks o1 o2 S) (hs : SrcL c ks o2 S R xs) : EvT c (fun σ H Q => ta σ H fun x H' => ∃ k, TruV c.K x H' k ∧ Q k H') σ B ks o1 o2 (!xs.isEmpty) := fun B1 H1 e w Q q => ha B1 H1 e w _ fun x B2 H2 e2 w2 s => by
  obtain ⟨p, vs, rfl, a, _, d⟩ := hs x B2 H2 w2 s
  refine ⟨!xs.isEmpty, Or.inl ⟨vs, SqL.of a, ?_⟩, q B2 H2 e2 w2⟩
  cases d <;> rfl
/-! ### comprehensions over a name -/
def lcT (R : Rl α) (K : Fg) (σ : L2.St) (j : Nat) (vs : List Nat) : α → Hp → L2.St → Prop := fun x B σ2 => ∃ v, σ2 = (wipe σ vs).set j (some v) ∧ (R.s K x).p v B
theorem lcT_mono (R : Rl α) (K : Fg) (σ : L2.St) (j : Nat) (vs : List Nat) : ∀ x B1 B2 σ2, Same B1 B2 → lcT R K σ j vs x B1 σ2 → lcT R K σ j vs x B2 σ2 := fun _ _ _ _ e ⟨v, a, b⟩ => ⟨v, a, R.mono e b⟩
theorem lcT_name {K : Fg} (hK : c.K = K) (j : Nat) (vs : List Nat) (hw : ∀ x, wipe ((wipe σ vs).set j (some x)) vs = wipe σ vs) : ∀ v x B' H' (ks' : List Addr) (os' : List Cs), Wd c B' H' ks' os' → R.r c.K B' v x → ∀ P : L2.St → Hp → Prop, (∀ σ2, wipe σ2 vs = wipe σ vs → lcT R K σ j vs x B' σ2 → P σ2 H') → gName j v (wipe σ vs) H' P :=
  fun v x B' H' ks' os' _ r P k => k _ (hw v) ⟨v, rfl, by rw [← hK]; exact r⟩
/-! ### list.index -/
def idxF (y : Int) : List Int → Option Nat
  | [] => none
  | x :: xs => if x = y then some 0 else (idxF y xs).map (· + 1)
def idxO (xs : List Int) (y : Int) : Option Int := (idxF y xs).map Int.ofNat
theorem idxF_spec {y : Int} : ∀ {xs : List Int} {k : Nat}, idxF y xs = some k → xs[k]? = some y ∧ ∀ m z, m < k → xs[m]? = some z → z ≠ y
  | [], _, h => by cases h
  | x :: xs, k, h => by
    unfold idxF at h
    split at h
    · rename_i hx; cases h; exact ⟨by simp [hx], fun m z hm => absurd hm (Nat.not_lt_zero _)⟩
    · rename_i hx
      obtain ⟨j, hj, rfl⟩ := Option.map_eq_some_iff.mp h
      obtain ⟨a, b⟩ := idxF_spec hj
      refine ⟨by simpa using a, fun m z hm hz => ?_⟩
      cases m with
      | zero => simp at hz; subst hz; exact hx
      | succ m => exact b m z (by omega) (by simpa using hz)
theorem ev_index {n z : Int} {ms : List Int} (ha : Ev c ta σ B ks o1 o2 S) (hb : Ev c tb σ B ks o2 o3 (rInt.s c.K n)) (hs1 : SrcL c ks o2 S rInt ms) (hs : SrcL c ks o3 S rInt ms) (h : idxO ms n = some z) : Ev c (tBM c.K "list" (rIndex c.K) ta (tCons tb tNil)) σ B ks o1 o3 (rInt.s c.K z) := fun B1 H1 e w Q q =>
  ha B1 H1 e w _ fun x B2 H2 e2 w2 s => by
    obtain ⟨p, vs, rfl, a, _, d⟩ := hs1 x B2 H2 w2 s
    refine ⟨ty_list a, hb B2 H2 (e.trans e2) w2 _ fun y B3 H3 e3 w3 t => ?_⟩
    obtain ⟨p', vs', ep, a', _, d'⟩ := hs _ B3 H3 w3 (S.mono e3 s)
    cases ep
    cases (show y = .int n from t)
    have ev := pints d'
    subst ev
    obtain ⟨k, hk, rfl⟩ := Option.map_eq_some_iff.mp h
    obtain ⟨k1, k2⟩ := idxF_spec hk
    refine ⟨p, _, .int n, k, .int n, rfl, rfl, SqL.of a', rfl, all_flat ms, by rw [List.getElem?_map, k1]; rfl, by show (n == n) = true; simp, fun m z' hm hz => ?_, q _ B3 H3 (e2.trans e3) w3 rfl⟩
    rw [List.getElem?_map] at hz
    cases hzm : ms[m]? with
    | none => rw [hzm] at hz; cases hz
    | some u =>
      rw [hzm] at hz; cases hz
      show (u == n) = false
      simpa using k2 m u hm hzm
/-! ### == of data -/
structure Dq (R : Rl α) where
  d : α → PyData
  k : Nat
  dp : ∀ {K : Fg} {B : Hp} {v : V} {x : α}, R.r K B v x → Dp K B v (d x)
  lay : ∀ x, (d x).canLay0 = true
  dep : ∀ x, (d x).depth ≤ k
  eq : ∀ x y, PyData.eqv (d x) (d y) = true ↔ x = y
def dqInt : Dq rInt := ⟨.int, 0, fun h => by cases (show _ = V.int _ from h); exact .int _, fun _ => rfl, fun _ => Nat.le_refl _, fun x y => by show (x == y) = true ↔ x = y; exact beq_iff_eq⟩
def dqBool : Dq rBool := ⟨.bool, 0, fun h => by cases (show _ = V.bl _ from h); exact .bl _, fun _ => rfl, fun _ => Nat.le_refl _, fun x y => by show (x == y) = true ↔ x = y; exact beq_iff_eq⟩
def dqUnit : Dq rUnit := ⟨fun _ => .none, 0, fun h => by cases (show _ = V.non from h); exact .non, fun _ => rfl, fun _ => Nat.le_refl _, fun x y => ⟨fun _ => rfl, fun _ => rfl⟩⟩
theorem dpall {K : Fg} {B : Hp} (D : Dq R) : ∀ {vs : List V} {xs : List α}, Paired (R.r K B) vs xs → DpAll K B vs (xs.map D.d)
  | _, _, .nil => .nil
  | _, _, .cons a b => .cons (D.dp a) (dpall D b)
theorem layall (D : Dq R) : ∀ xs : List α, PyData.canLayAll0 (xs.map D.d) = true
  | [] => by simp [PyData.canLayAll0]
  | x :: xs => by simp [PyData.canLayAll0, D.lay x, layall D xs]
theorem depall (D : Dq R) : ∀ xs : List α, PyData.depthAll (xs.map D.d) ≤ D.k
  | [] => by simp [PyData.depthAll]
  | x :: xs => by
    have h1 := D.dep x
    have h2 := depall D xs
    show max (PyData.depth (D.d x)) (PyData.depthAll (xs.map D.d)) ≤ D.k
    omega
theorem eqall (D : Dq R) : ∀ xs ys : List α, PyData.eqvAll (xs.map D.d) (ys.map D.d) = true ↔ xs = ys
  | [], [] => by simp [PyData.eqvAll]
  | [], y :: ys => by simp [PyData.eqvAll]
  | x :: xs, [] => by simp [PyData.eqvAll]
  | x :: xs, y :: ys => by
    show (PyData.eqv (D.d x) (D.d y) && PyData.eqvAll (xs.map D.d) (ys.map D.d)) = true ↔ _
    rw [Bool.and_eq_true, D.eq, eqall D xs ys, List.cons.injEq]
def dqLst (D : Dq R) : Dq (rLst R) := ⟨fun xs => .list (xs.map D.d), D.k + 1, fun ⟨p, vs, a, b, d⟩ => by subst a; exact .lst (SqL.of b) (dpall D d), fun xs => layall D xs, fun xs => Nat.succ_le_succ (depall D xs), fun xs ys => eqall D xs ys⟩
def dqTpl (D : Dq R) : Dq (rTpl R) := ⟨fun xs => .tuple (xs.map D.d), D.k + 1, fun ⟨p, vs, a, b, d⟩ => by subst a; exact .tup b (dpall D d), fun xs => layall D xs, fun xs => Nat.succ_le_succ (depall D xs), fun xs ys => eqall D xs ys⟩
def dqT2 {R' : Rl β} (D : Dq R) (D' : Dq R') : Dq (rT2 R R') := ⟨fun z => .tuple [D.d z.1, D'.d z.2], max D.k D'.k + 1, fun ⟨p, v1, v2, a, b, d1, d2⟩ => by subst a; exact .tup b (.cons (D.dp d1) (.cons (D'.dp d2) .nil)),
  fun z => by simp [PyData.canLay0, PyData.canLayAll0, D.lay, D'.lay], fun z => by
    have h1 := D.dep z.1
    have h2 := D'.dep z.2
    simp only [PyData.depth, PyData.depthAll]
    omega, fun x y => by
    show (PyData.eqv (D.d x.1) (D.d y.1) && (PyData.eqv (D'.d x.2) (D'.d y.2) && true)) = true ↔ x = y
    rw [Bool.and_eq_true, Bool.and_true, D.eq, D'.eq]
    exact ⟨fun ⟨a, b⟩ => Prod.ext a b, fun e => by subst e; exact ⟨rfl, rfl⟩⟩⟩
def dqT3 {γ : Type} {R' : Rl β} {R'' : Rl γ} (D : Dq R) (D' : Dq R') (D'' : Dq R'') : Dq (rT3 R R' R'') := ⟨fun z => .tuple [D.d z.1, D'.d z.2.1, D''.d z.2.2], max D.k (max D'.k D''.k) + 1, fun ⟨p, v1, v2, v3, a, b, d1, d2, d3⟩ => by subst a; exact .tup b (.cons (D.dp d1) (.cons (D'.dp d2) (.cons (D''.dp d3) .nil))),
  fun z => by simp [PyData.canLay0, PyData.canLayAll0, D.lay, D'.lay, D''.lay], fun z => by
    have h1 := D.dep z.1
    have h2 := D'.dep z.2.1
    have h3 := D''.dep z.2.2
    simp only [PyData.depth, PyData.depthAll]
    omega, fun x y => by
    show (PyData.eqv (D.d x.1) (D.d y.1) && (PyData.eqv (D'.d x.2.1) (D'.d y.2.1) && (PyData.eqv (D''.d x.2.2) (D''.d y.2.2) && true))) = true ↔ x = y
    rw [Bool.and_eq_true, Bool.and_eq_true, Bool.and_true, D.eq, D'.eq, D''.eq]
    exact ⟨fun ⟨a, b, c⟩ => Prod.ext a (Prod.ext b c), fun e => by subst e; exact ⟨rfl, rfl, rfl⟩⟩⟩
/-- where a value stands, to be compared -/
def SrcD (c : Ct) (ks : List Addr) (os : List Cs) (S : Sv) {α : Type} (R : Rl α) (x : α) : Prop := ∀ v B H, Wd c B H ks os → S.p v B → ∃ B', Same B' H ∧ R.r c.K B' v x
theorem srd_s : SrcD c ks os (R.s c.K x) R x := fun v B H w h => ⟨B, w.ex, h⟩
theorem srd_g : SrcD c ks os (R.g c.K c.Hs x) R x := fun v B H w h => ⟨B, w.ex, R.fr h⟩
theorem srd_n : SrcD c ks os (SN R c.K c.Hs xs) (rLst R) xs := fun v B H w h => ⟨B, w.ex, sn_s v B h⟩
theorem srd_o {q : Addr} (i : Nat) (hk : ks[i]? = some q) (ho : os[i]? = some (CL R c.K xs)) : SrcD c ks os (SA q) (rLst R) xs := fun v B H w h => by
  obtain ⟨o, h1, _, _, vs, rfl, d⟩ := w.cell.get hk ho
  exact ⟨expo ks H B, expo_to w ks, q, vs, h, by rw [expo_in (List.mem_of_getElem? hk)]; exact h1, pmap d fun _ _ z => R.mono (expo_same w fun _ z => z) z⟩
theorem sq_sl {K : Fg} {B B' : Hp} (e : Same B B') : ∀ {v : V} {d : PyData}, Dp K B v d → Dp K B' v d := fun h => by
  refine Dp.rec (motive_1 := fun v d _ => Dp K B' v d) (motive_2 := fun vs ds _ => DpAll K B' vs ds) ?_ ?_ ?_ ?_ ?_ ?_ ?_ ?_ h
  · exact .non
  · exact .bl
  · exact .int
  · exact .str
  · exact fun s _ d => .lst (Same.seq e s) d
  · exact fun s _ d => .tup (sqt_same e s) d
  · exact .nil
  · exact fun _ _ a b => .cons a b
theorem shp (D : Dq R) (hk : D.k ≤ 64) (x : α) : SeqAt.shaped (D.d x) = true := by
  unfold SeqAt.shaped
  rw [D.lay x, Bool.true_and]
  exact decide_eq_true (Nat.le_trans (D.dep x) hk)
theorem eqv_dec [DecidableEq α] (D : Dq R) (x y : α) : PyData.eqv (D.d x) (D.d y) = decide (x = y) := by
  by_cases h : x = y
  · rw [decide_eq_true h]; exact (D.eq x y).mpr h
  · rw [decide_eq_false h]
    cases z : PyData.eqv (D.d x) (D.d y) with
    | true => exact absurd ((D.eq x y).mp z) h
    | false => rfl
theorem ev_eqD [DecidableEq α] (D : Dq R) (ha : Ev c ta σ B ks o1 o2 S) (hb : Ev c tb σ B ks o2 o3 T) (hs : SrcD c ks o3 S R x) (ht : SrcD c ks o3 T R y) (hk : D.k ≤ 64 := by decide) : Ev c (tOp (rEqD c.K) ta tb) σ B ks o1 o3 (rBool.s c.K (decide (x = y))) :=
  ev_op0 ha hb fun a b B2 H2 w s t => by
    obtain ⟨B3, e3, r3⟩ := hs a B2 H2 w s
    obtain ⟨B4, e4, r4⟩ := ht b B2 H2 w t
    exact ⟨.bl (decide (x = y)), rfl, fun Q q => ⟨D.d x, D.d y, sq_sl e3 (D.dp r3), sq_sl e4 (D.dp r4), shp D hk x, shp D hk y, by rw [eqv_dec]; exact q⟩⟩
theorem ev_neD [DecidableEq α] (D : Dq R) (ha : Ev c ta σ B ks o1 o2 S) (hb : Ev c tb σ B ks o2 o3 T) (hs : SrcD c ks o3 S R x) (ht : SrcD c ks o3 T R y) (hk : D.k ≤ 64 := by decide) : Ev c (tOp (rNeD c.K) ta tb) σ B ks o1 o3 (rBool.s c.K (!decide (x = y))) :=
  ev_op0 ha hb fun a b B2 H2 w s t => by
    obtain ⟨B3, e3, r3⟩ := hs a B2 H2 w s
    obtain ⟨B4, e4, r4⟩ := ht b B2 H2 w t
    exact ⟨.bl (!decide (x = y)), rfl, fun Q q => ⟨D.d x, D.d y, sq_sl e3 (D.dp r3), sq_sl e4 (D.dp r4), shp D hk x, shp D hk y, by rw [eqv_dec]; exact q⟩⟩
theorem any_dec [DecidableEq α] (D : Dq R) (x : α) : ∀ ys : List α, ((ys.map D.d).any fun z => PyData.eqv z (D.d x)) = decide (x ∈ ys)
  | [] => rfl
  | y :: ys => by
    rw [List.map_cons, List.any_cons, any_dec D x ys, eqv_dec]
    by_cases h : x = y
    · subst h; simp
    · have h2 : ¬ y = x := fun e => h e.symm
      simp [h, h2]
theorem ev_inD [DecidableEq α] (D : Dq R) (ha : Ev c ta σ B ks o1 o2 (R.s c.K x)) (hb : Ev c tb σ B ks o2 o3 T) (ht : SrcL c ks o3 T R ys) (hk : D.k + 1 ≤ 64 := by decide) : Ev c (tOp (rInD c.K) ta tb) σ B ks o1 o3 (rBool.s c.K (decide (x ∈ ys))) :=
  ev_op0 ha hb fun a b B2 H2 w s t => by
    obtain ⟨p, vs, rfl, h, _, d⟩ := ht b B2 H2 w t
    exact ⟨.bl (decide (x ∈ ys)), rfl, fun Q q => ⟨D.d x, ys.map D.d, sq_sl w.ex (D.dp s), .lst (SqL.of h) (dpall D (pmap d fun _ _ z => R.mono w.ex z)), shp D (by omega) x, shp (dqLst D) hk ys, by rw [any_dec]; exact q⟩⟩
theorem ev_notInD [DecidableEq α] (D : Dq R) (ha : Ev c ta σ B ks o1 o2 (R.s c.K x)) (hb : Ev c tb σ B ks o2 o3 T) (ht : SrcL c ks o3 T R ys) (hk : D.k + 1 ≤ 64 := by decide) : Ev c (tOp (rNotInD c.K) ta tb) σ B ks o1 o3 (rBool.s c.K (!decide (x ∈ ys))) :=
  ev_op0 ha hb fun a b B2 H2 w s t => by
    obtain ⟨p, vs, rfl, h, _, d⟩ := ht b B2 H2 w t
    exact ⟨.bl (!decide (x ∈ ys)), rfl, fun Q q => ⟨D.d x, ys.map D.d, sq_sl w.ex (D.dp s), .lst (SqL.of h) (dpall D (pmap d fun _ _ z => R.mono w.ex z)), shp D (by omega) x, shp (dqLst D) hk ys, by rw [any_dec]; exact q⟩⟩
/-! ### what is not None -/
theorem nn_int : ∀ (K : Fg) (B : Hp) (v : V) (a : Int), rInt.r K B v a → v ≠ .non := fun K B v a h z => by cases (show v = V.int a from h); cases z
theorem nn_bool : ∀ (K : Fg) (B : Hp) (v : V) (a : Bool), rBool.r K B v a → v ≠ .non := fun K B v a h z => by cases (show v = V.bl a from h); cases z
theorem nn_lst : ∀ (K : Fg) (B : Hp) (v : V) (a : List α), (rLst R).r K B v a → v ≠ .non := fun K B v a h z => by obtain ⟨p, vs, h, _⟩ := h; rw [h] at z; cases z
theorem nn_tpl : ∀ (K : Fg) (B : Hp) (v : V) (a : List α), (rTpl R).r K B v a → v ≠ .non := fun K B v a h z => by obtain ⟨p, vs, h, _⟩ := h; rw [h] at z; cases z
theorem nn_t2 {R' : Rl β} : ∀ (K : Fg) (B : Hp) (v : V) (a : α × β), (rT2 R R').r K B v a → v ≠ .non := fun K B v a h z => by obtain ⟨p, v1, v2, h, _⟩ := h; rw [h] at z; cases z
/-! ### isinstance -/
theorem ev_isi {ty' : String} {t : Value} {b : Bool} (ha : Ev c ta σ B ks o1 o2 S) (ht : ∀ v B H, Wd c B H ks o2 → S.p v B → TyX c.K H v t) (hk : ∀ K, PySem.W.kitOne K t (.type ty') = some b) : Ev c (tCB (rIsi c.K) (tCons ta (tCons (tC (.ty ty')) tNil))) σ B ks o1 o2 (rBool.s c.K b) := fun B1 H1 e w Q q =>
  ha B1 H1 e w _ fun x B2 H2 e2 w2 s => ⟨x, .ty ty', t, _, b, rfl, .ty ty', ht x B2 H2 w2 s, hk _, q _ B2 H2 e2 w2 rfl⟩
theorem ev_isi_int {n : Int} {ty' : String} {b : Bool} (ha : Ev c ta σ B ks o1 o2 (rInt.s c.K n)) (hb : kitB "int" ty' = some b) : Ev c (tCB (rIsi c.K) (tCons ta (tCons (tC (.ty ty')) tNil))) σ B ks o1 o2 (rBool.s c.K b) :=
  ev_isi ha (fun v B H w s => by cases (show v = V.int n from s); exact .base (.int n)) fun K => kit_ty hb
theorem ev_isi_bool {n : Bool} {ty' : String} {b : Bool} (ha : Ev c ta σ B ks o1 o2 (rBool.s c.K n)) (hb : kitB "bool" ty' = some b) : Ev c (tCB (rIsi c.K) (tCons ta (tCons (tC (.ty ty')) tNil))) σ B ks o1 o2 (rBool.s c.K b) :=
  ev_isi ha (fun v B H w s => by cases (show v = V.bl n from s); exact .base (.bl n)) fun K => kit_ty hb
theorem ev_isi_list {ty' : String} {b : Bool} (ha : Ev c ta σ B ks o1 o2 S) (hs : SrcL c ks o2 S R xs) (hb : kitB "list" ty' = some b) : Ev c (tCB (rIsi c.K) (tCons ta (tCons (tC (.ty ty')) tNil))) σ B ks o1 o2 (rBool.s c.K b) :=
  ev_isi ha (fun v B H w s => by obtain ⟨p, vs, rfl, a, _⟩ := hs v B H w s; exact .base (.lst a)) fun K => kit_ty hb
end
end Dl

/-! Ev6 -/
set_option Elab.async false
set_option linter.all false
set_option maxRecDepth 100000
set_option maxHeartbeats 2000000
namespace Dl
open PySem PySem.Spec L2
theorem hu_of65 {A : Around} {k : Nat} (hr : Room k A) : A.units + 65 < cLine := by have := hr.un; omega
section
variable {c : Ct} {te ta tb tc : TE} {tt tu : TT} {tl tr : TA} {σ : L2.St} {B H : Hp} {ks : List Addr} {os o1 o2 o3 o4 : List Cs} {S T U : Sv} {Ss : List Sv} {i : Nat} {v : V} {r : R2} {α β : Type} {R : Rl α} {xs ys : List α} {x y : α} {q : Addr} {D : Ends}
theorem sle_trans (a : Sle S T) (b : Sle T U) : Sle S U := fun v B h => b v B (a v B h)
theorem s_opt {K : Fg} : Sle (R.s K x) ((rOpt R).s K (some x)) := fun _ _ h => h
theorem g_opt {K : Fg} {H0 : Hp} : Sle (R.g K H0 x) ((rOpt R).g K H0 (some x)) := fun _ _ h => h
theorem s_augI {j : Nat} {f : Int → Int → Int} {m n : Int} (w : Wd c B H ks o1) {v : V} (hx : σ[j]? = some (some v)) (hv : (rInt.s c.K m).p v B) (h : Ev (c.at H) te σ B ks o1 o2 (rInt.s c.K n)) (k : ∀ B2 H2, Same B B2 → Wd c B2 H2 ks o2 → D.nx (σ.set j (some (.int (f m n)))) H2) : tAug j te (ipI f) D σ H :=
  ⟨v, hx, h B H (Same.refl _) w.at _ fun v' B2 H2 e w2 s => ⟨m, n, hv, s, k B2 H2 e (w.un w2)⟩⟩
/-- raise C(n) -/
theorem s_raise {ga : Str → Addr} {cn f1 : Str} {n : Int} {E : XK} (w : Wd c B H ks o1) (h : EvA (c.at H) tl σ B ks o1 o2 [rInt.s c.K n]) (k : ∀ cls d B2 H2, Same B B2 → Wd c B2 H2 ks o2 → XR ga (.one cn f1 n) cls d B2 → E cls d H2) : Xi.tLow (ga cn) f1 tl σ H (fun cls d H' => E cls d H') :=
  h B H (Same.refl _) w.at _ fun vs B2 H2 e w2 ss => by
    obtain ⟨v, rfl, s⟩ := pn1 ss
    refine ⟨v, rfl, fun d hd => ?_⟩
    obtain ⟨up, w3⟩ := (w.un w2).new hd (.xd [(f1, v)])
    cases (show v = .int n from s)
    exact k _ _ _ _ (e.trans up) w3 ⟨rfl, d, rfl, upd_same⟩
theorem s_nul {ga : Str → Addr} {cn : Str} {E : XK} (w : Wd c B H ks o1) (k : ∀ cls d, XR ga (.nul cn) cls d H → E cls d H) : E (.ref (ga cn)) none H := k _ _ ⟨rfl, rfl⟩
end
/-- what is told of an own error class with one field -/
structure Kl (P : Program) (K : Fg) (mg : Str → Option Value) (x f1 : Str) : Prop where
  gl : mg x = some (.ref (He.ga K x))
  lo : ∃ fI fd a1, Xi.Low1 P K (He.ga K x) fI fd f1 a1
end Dl

/-! Ev7 -/
set_option Elab.async false
set_option linter.all false
set_option maxRecDepth 100000
set_option maxHeartbeats 2000000
namespace Dl
open PySem PySem.Spec L2
/-! the rules, the fragment said -/
section
variable {X : Cx} {K : Fg}
theorem kk {F : Fg → Prop} (h : X.K = K) (f : F X.K) : F K := h ▸ f
theorem ixl (h : X.K = K) : IxR X (rIxL K) := kk (F := fun K => IxR X (rIxL K)) h ix_list
theorem ixt (h : X.K = K) : IxR X (rIxT K) := kk (F := fun K => IxR X (rIxT K)) h ix_tup
theorem opin (h : X.K = K) : OpR X (compareOp .In) (rIn K false) := kk (F := fun K => OpR X (compareOp .In) (rIn K false)) h op_in_seq
theorem opnin (h : X.K = K) : OpR X (compareOp .NotIn) (rIn K true) := kk (F := fun K => OpR X (compareOp .NotIn) (rIn K true)) h op_notIn_seq
theorem opeqD (h : X.K = K) (hu : X.A.units + 64 < cLine) : OpR X (compareOp .Eq) (rEqD K) := kk (F := fun K => OpR X (compareOp .Eq) (rEqD K)) h (op_eqD hu)
theorem opneD (h : X.K = K) (hu : X.A.units + 64 < cLine) : OpR X (compareOp .NotEq) (rNeD K) := kk (F := fun K => OpR X (compareOp .NotEq) (rNeD K)) h (op_neD hu)
theorem opinD (h : X.K = K) (hu : X.A.units + 65 < cLine) : OpR X (compareOp .In) (rInD K) := kk (F := fun K => OpR X (compareOp .In) (rInD K)) h (op_inD hu)
theorem opninD (h : X.K = K) (hu : X.A.units + 65 < cLine) : OpR X (compareOp .NotIn) (rNotInD K) := kk (F := fun K => OpR X (compareOp .NotIn) (rNotInD K)) h (op_notInD hu)
theorem csum (h : X.K = K) (hc : X.calm = true) : CallR X (.builtin "sum") (rSum K) := kk (F := fun K => CallR X (.builtin "sum") (rSum K)) h (cr_sum hc)
theorem cany (h : X.K = K) (hc : X.calm = true) : CallR X (.builtin "any") (rAny K) := kk (F := fun K => CallR X (.builtin "any") (rAny K)) h (cr_any hc)
theorem call_ (h : X.K = K) (hc : X.calm = true) : CallR X (.builtin "all") (rAll K) := kk (F := fun K => CallR X (.builtin "all") (rAll K)) h (cr_all hc)
theorem cisi (h : X.K = K) : CallR X (.builtin "isinstance") (rIsi K) := kk (F := fun K => CallR X (.builtin "isinstance") (rIsi K)) h call_isi
theorem csrt (h : X.K = K) : CallR X (.builtin "sorted") (rSortedI K) := kk (F := fun K => CallR X (.builtin "sorted") (rSortedI K)) h cr_sortedI
theorem sll (h : X.K = K) : SlR X (rSlL K) := kk (F := fun K => SlR X (rSlL K)) h sl_list
theorem clen (h : X.K = K) : CallR X (.builtin "len") (fun xs H Q => ∃ p ys, xs = [.ref p] ∧ (SqL K H p ys ∨ SqT K H p ys) ∧ Q (.int ys.length) H) := h ▸ call_len_seq
theorem clst (h : X.K = K) : CallR X (.type "list") (fun xs H Q => ∃ p ys, xs = [.ref p] ∧ (SqL K H p ys ∨ SqT K H p ys) ∧ ∀ l, H l = none → Q (.ref l) (upd H l (.lst ys))) := h ▸ call_list_of
theorem ctup (h : X.K = K) : CallR X (.type "tuple") (fun xs H Q => ∃ p ys, xs = [.ref p] ∧ ((SqL K H p ys ∧ ∀ l, H l = none → Q (.ref l) (upd H l (.tup ys))) ∨ (SqT K H p ys ∧ Q (.ref p) H))) := h ▸ call_tuple_of
end
theorem finK_nx {ρ τ δ : Type} {k : ρ → Option δ} {kr : τ → Option δ} {r : ρ} {o : Option δ} (h : finK k kr (some (.nx r)) = o) : k r = o := h
end Dl

/-! Ev8 -/
set_option Elab.async false
set_option linter.all false
set_option maxRecDepth 100000
set_option maxHeartbeats 2000000
namespace Dl
open PySem PySem.Spec L2 PyProof.Rows
section
variable {X : Cx} {K : Fg}
theorem pgt {es : List Expr} {k : Nat} {t : TGs} {n : Nat} {pos : Pos} (h : X.K = K) (hc : X.calm = true) (hp : PGs X es t) (hn : (assignEach es X.env).length = n := by rfl) (hst : (assignEach es X.env).findIdx? (·.1) = none := by rfl) : PG X (.Tuple es k pos) (gTup K n t) :=
  kk (F := fun K => PG X (.Tuple es k pos) (gTup K n t)) h (pg_tup hc hp hn hst)
/-- set(x), x a tuple of ints -/
def rSetTI (K : Fg) (w : World) : List V → Hp → VK → Prop := fun xs H Q => ∃ (a : Addr) (ns : List Int), xs = [V.ref a] ∧ SqT K H a (ns.map V.int) ∧ ns.length + 1 < scanBound ∧
  ∀ (p : Addr) (n : Nat), H p = none → n ≤ ns.length → Q (.ref p) (upd H p (SetO w p (fun j => decide (j ∈ ns)) n))
theorem cr_setTI (hc : X.calm = true) : CallR X (.type "set") (rSetTI X.K X.w) := by
  intro pins s σ H xs us Q I r h
  obtain ⟨a, ns, rfl, ht, hb, q⟩ := h
  rw [Vals.ref1 r]
  obtain ⟨its, rv, p, hz⟩ := I.tuple ht
  refine call_set_tupI (l := a) ns (I.ok.hd hc) (show s.heap.IsTuple a its.toArray from p) (by simpa using intsAre_of rv) hb fun h' tk n R hn keep => ?_
  exact ⟨.ref _, _, I.laid (t' := tk) keep (Nat.le_refl _) (setO_new R), rfl, q _ n (I.hok.fresh (Nat.le_refl _)) hn⟩
end
/-- ascending, each once -/
def ins2 (x : Int) : List Int → List Int
  | [] => [x]
  | y :: ys => if x < y then x :: y :: ys else if x = y then y :: ys else y :: ins2 x ys
def usort : List Int → List Int
  | [] => []
  | x :: xs => ins2 x (usort xs)
theorem ins2_mem (x z : Int) : ∀ ys, z ∈ ins2 x ys ↔ z = x ∨ z ∈ ys
  | [] => by simp [ins2]
  | y :: ys => by
    unfold ins2
    split
    · simp
    · split
      · rename_i h; subst h; simp
      · simp [ins2_mem x z ys]
        constructor
        · rintro (h | h | h) <;> simp [h]
        · rintro (h | h | h) <;> simp [h]
theorem ins2_up (x : Int) : ∀ ys, ys.Pairwise (· < ·) → (ins2 x ys).Pairwise (· < ·)
  | [], _ => by simp [ins2]
  | y :: ys, h => by
    unfold ins2
    rw [List.pairwise_cons] at h
    split
    · rename_i hx
      refine List.pairwise_cons.mpr ⟨fun z hz => ?_, List.pairwise_cons.mpr h⟩
      rcases List.mem_cons.mp hz with rfl | hz
      · exact hx
      · exact Int.lt_trans hx (h.1 z hz)
    · split
      · exact List.pairwise_cons.mpr h
      · rename_i h1 h2
        refine List.pairwise_cons.mpr ⟨fun z hz => ?_, ins2_up x ys h.2⟩
        rcases (ins2_mem x z ys).mp hz with rfl | hz
        · omega
        · exact h.1 z hz
theorem usort_mem (z : Int) : ∀ xs, z ∈ usort xs ↔ z ∈ xs
  | [] => Iff.rfl
  | x :: xs => by
    show z ∈ ins2 x (usort xs) ↔ _
    rw [ins2_mem, usort_mem z xs, List.mem_cons]
theorem usort_up : ∀ xs, (usort xs).Pairwise (· < ·)
  | [] => .nil
  | x :: xs => ins2_up x _ (usort_up xs)
theorem up_unique {xs ys : List Int} (hx : xs.Pairwise (· < ·)) (hy : ys.Pairwise (· < ·)) (h : ∀ z, z ∈ xs ↔ z ∈ ys) : xs = ys := by
  have nd : ∀ {l : List Int}, l.Pairwise (· < ·) → l.Nodup := fun h => h.imp fun q e => by omega
  have le : ∀ {l : List Int}, l.Pairwise (· < ·) → l.Pairwise (· ≤ ·) := fun h => h.imp fun q => by omega
  exact sorted_unique ((List.perm_ext_iff_of_nodup (nd hx) (nd hy)).mpr h) (le hx) (le hy)
def sortSetO (ns : List Int) : Option (List Int) := if ns.length < 60 then some (usort ns) else none
def enumF {α : Type} (xs : List α) : Nat → List (Int × α)
  | n => match xs with
    | [] => []
    | x :: r => ((n : Int), x) :: enumF r (n + 1)
def enumL {α : Type} (xs : List α) : List (Int × α) := enumF xs 0
theorem enumF_get {α : Type} : ∀ (xs : List α) (n i : Nat), (enumF xs n)[i]? = (xs[i]?).map fun x => (((n + i : Nat) : Int), x)
  | [], n, i => by simp [enumF]
  | x :: r, n, 0 => by simp [enumF]
  | x :: r, n, i + 1 => by
    have e : n + 1 + i = n + (i + 1) := by omega
    show (enumF r (n + 1))[i]? = _
    rw [enumF_get r (n + 1) i, e]
    rfl
theorem enumF_len {α : Type} : ∀ (xs : List α) (n : Nat), (enumF xs n).length = xs.length
  | [], n => rfl
  | x :: r, n => congrArg (· + 1) (enumF_len r (n + 1))
def repO {α : Type} (xs : List α) (n : Int) : Option (List α) := if -1000000 ≤ n ∧ n ≤ 1000000 ∧ xs.length = 1 then some (List.replicate n.toNat xs).flatten else none
section
variable {c : Ct} {te ta tb tc : TE} {tt tu : TT} {tl tr : TA} {σ : L2.St} {B H : Hp} {ks : List Addr} {os o1 o2 o3 o4 : List Cs} {S T U : Sv} {Ss : List Sv} {i : Nat} {v : V} {r : R2} {α β γ : Type} {R : Rl α} {R' : Rl β} {R'' : Rl γ} {xs ys : List α} {x y : α} {q : Addr} {D : Ends}
theorem ev_sortSet {w : World} {ns z : List Int} (ha : Ev c ta σ B ks o1 o2 ((rTpl rInt).s c.K ns)) (h : sortSetO ns = some z) : Ev c (tCB (rSortedSet w) (tCons (tCB (rSetTI c.K w) (tCons ta tNil)) tNil)) σ B ks o1 o2 (SN rInt c.K c.Hs z) := fun B1 H1 e w1 Q k => by
  unfold sortSetO at h
  split at h
  · rename_i hl
    cases h
    refine ha B1 H1 e w1 _ fun v B2 H2 e2 w2 ⟨p, vs, a, b, d⟩ => ?_
    subst a
    have ev := pints d
    subst ev
    have hs : (60 : Nat) + 1 < scanBound := by decide
    refine ⟨p, ns, rfl, sqt_same w2.ex b, by omega, fun p' n hn hle => ?_⟩
    obtain ⟨up, w3⟩ := w2.new hn (SetO w p' (fun j => decide (j ∈ ns)) n)
    refine ⟨p', _, n, rfl, upd_same, by omega, fun ms p2 h1 h2 _ hp => ?_⟩
    have e3 : ms = usort ns := up_unique h1 (usort_up ns) fun z => by rw [h2, usort_mem]; exact decide_eq_true_iff
    subst e3
    exact new_list w3 (ints_p (c := c) (B := upd B2 p' (SetO w p' (fun j => decide (j ∈ ns)) n)) _) (fun v B4 H4 e4 w4 z => k v B4 H4 ((e2.trans up).trans e4) w4 z) p2 hp
  · cases h
/-- for i, x in enumerate(xs) -/
theorem ei_enum (ha : Ev c ta σ B ks o1 o2 S) (hp : ∀ v B, S.p v B → (∃ p vs, v = .ref p ∧ B p = some (.lst vs) ∧ Paired (R.r c.K B) vs xs)) : EvI c (iEnum c.K (tCons ta tNil)) σ B ks o1 o2 (rT2 rInt R) (enumL xs) := fun B1 H1 e w Rk k =>
  ha B1 H1 e w _ fun v B2 H2 e2 w2 s => by
    obtain ⟨p, vs, a, b, d⟩ := hp v B2 s
    subst a
    refine ⟨p, vs, rfl, SqL.of (w2.ex _ _ b), k _ B2 H2 e2 w2 fun c' i B3 H3 ks3 os3 hK e3 w3 => ⟨fun x hx => ?_, fun hl => ⟨vs, SqL.of (w3.ex _ _ (e3 _ _ b)), by rw [plen d]; rw [enumL, enumF_len] at hl; exact hl⟩⟩⟩
    rw [enumL, enumF_get] at hx
    cases hy : xs[i]? with
    | none => rw [hy] at hx; cases hx
    | some y =>
      rw [hy] at hx
      cases hx
      obtain ⟨u, hu, ru⟩ := pget d hy
      have hp2 := SqL.of (K := c.K) (w3.ex _ _ (e3 _ _ b))
      refine ⟨⟨vs, u, hp2, hu⟩, fun y' H' hy' => ?_⟩
      obtain ⟨T, x', e1, hT, e2', hx'⟩ := hy'
      have hv := hx' vs hp2
      rw [hu] at hv; cases hv
      subst e1 e2'
      obtain ⟨up, w4⟩ := w3.new hT (.tup [.int (i : Nat), u])
      refine ⟨_, up, w4, T, .int ((0 + i : Nat) : Int), u, rfl, ?_, rfl, ?_⟩
      · rw [Nat.zero_add]
        exact SqT.of upd_same
      · exact R.mono (e3.trans up) ru
theorem lp_s {K : Fg} : ∀ v B, ((rLst R).s K xs).p v B → (∃ p vs, v = .ref p ∧ B p = some (.lst vs) ∧ Paired (R.r K B) vs xs) := fun _ _ h => h
/-- a, b = v -/
theorem gt2 {K : Fg} {a b : Nat} {z : α × β} {P : L2.St → Hp → Prop} (h : (rT2 R R').r K B v z) (w : Same B H) (k : ∀ v1 v2, (R.s K z.1).p v1 B → (R'.s K z.2).p v2 B → P ((σ.set a (some v1)).set b (some v2)) H) : gTup K 2 (gCons (gName a) (gCons (gName b) gNil)) v σ H P := by
  obtain ⟨p, v1, v2, e1, hq, h1, h2⟩ := h
  exact ⟨p, _, e1, sqt_same w hq, rfl, v1, _, rfl, v2, _, rfl, rfl, k v1 v2 h1 h2⟩
def lcT2 (R : Rl α) (R' : Rl β) (K : Fg) (σ : L2.St) (a b : Nat) (vs : List Nat) : α × β → Hp → L2.St → Prop := fun x B σ2 => ∃ v1 v2, σ2 = ((wipe σ vs).set a (some v1)).set b (some v2) ∧ (R.s K x.1).p v1 B ∧ (R'.s K x.2).p v2 B
theorem lcT2_mono (R : Rl α) (R' : Rl β) (K : Fg) (σ : L2.St) (a b : Nat) (vs : List Nat) : ∀ x B1 B2 σ2, Same B1 B2 → lcT2 R R' K σ a b vs x B1 σ2 → lcT2 R R' K σ a b vs x B2 σ2 := fun _ _ _ _ e ⟨v1, v2, q, h1, h2⟩ => ⟨v1, v2, q, R.mono e h1, R'.mono e h2⟩
theorem lcT2_name {K : Fg} (hK : c.K = K) (a b : Nat) (vs : List Nat) (hw : ∀ x y, wipe (((wipe σ vs).set a (some x)).set b (some y)) vs = wipe σ vs) : ∀ v x B' H' (ks' : List Addr) (os' : List Cs), Wd c B' H' ks' os' → (rT2 R R').r c.K B' v x → ∀ P : L2.St → Hp → Prop, (∀ σ2, wipe σ2 vs = wipe σ vs → lcT2 R R' K σ a b vs x B' σ2 → P σ2 H') → gTup K 2 (gCons (gName a) (gCons (gName b) gNil)) v (wipe σ vs) H' P :=
  fun v x B' H' ks' os' w r P k => by
    rw [hK] at r
    exact gt2 r w.ex fun v1 v2 h1 h2 => k _ (hw v1 v2) ⟨v1, v2, rfl, h1, h2⟩
/-- [x] * n -/
theorem prep {F : V → α → Prop} {vs : List V} (h : Paired F vs xs) : ∀ n : Nat, Paired F (List.replicate n vs).flatten (List.replicate n xs).flatten
  | 0 => .nil
  | n + 1 => by
    rw [List.replicate_succ, List.replicate_succ, List.flatten_cons, List.flatten_cons]
    exact papp h (prep h n)
theorem rep_len {α : Type} {xs : List α} (h : xs.length = 1) : ∀ n : Nat, (List.replicate n xs).flatten.length = n
  | 0 => rfl
  | n + 1 => by rw [List.replicate_succ, List.flatten_cons, List.length_append, rep_len h n, h, Nat.add_comm]
theorem ev_rep {n : Int} {z : List α} (ha : Ev c ta σ B ks o1 o2 S) (hb : Ev c tb σ B ks o2 o3 (rInt.s c.K n)) (hs : SrcL c ks o3 S R xs) (h : repO xs n = some z) : Ev c (tOp rRep ta tb) σ B ks o1 o3 (SN R c.K c.Hs z) :=
  ev_op ha hb fun a b B2 H2 w s t Q k => by
    obtain ⟨p, vs, rfl, h1, _, d⟩ := hs a B2 H2 w s
    cases (show b = .int n from t)
    unfold repO at h
    split at h
    · rename_i hl
      cases h
      refine ⟨p, n, vs, rfl, rfl, h1, by omega, by omega, by rw [plen d, hl.2.2, sizeLine_eq]; omega, new_list w (prep d _) k⟩
    · cases h
theorem ev_rev (ha : Ev c ta σ B ks o1 o2 S) (hs : SrcL c ks o2 S R xs) : Ev c (tRevL c.K ta) σ B ks o1 o2 (SN R c.K c.Hs xs.reverse) := fun B1 H1 e w Q k =>
  ha B1 H1 e w _ fun v B2 H2 e2 w2 s => by
    obtain ⟨p, vs, rfl, h1, _, d⟩ := hs v B2 H2 w2 s
    have dr : ∀ {vs : List V} {xs : List α}, Paired (R.r c.K B2) vs xs → Paired (R.r c.K B2) vs.reverse xs.reverse := by
      intro vs xs h
      induction h with
      | nil => exact .nil
      | cons a b ih =>
        rw [List.reverse_cons, List.reverse_cons]
        exact papp ih (.cons a .nil)
    exact ⟨p, vs, rfl, SqL.of h1, new_list w2 (dr d) fun v B3 H3 e3 w3 z => k v B3 H3 (e2.trans e3) w3 z⟩
/-! ### one kind or another -/
def rEi (R : Rl α) (R' : Rl β) : Rl (α ⊕ β) where
  r K B v x := match x with | .inl a => R.r K B v a | .inr b => R'.r K B v b
  f K H B v x := match x with | .inl a => R.f K H B v a | .inr b => R'.f K H B v b
  mono {K B B' v x} e h := by cases x with | inl a => exact R.mono e h | inr b => exact R'.mono e h
  fr {K H B v x} h := by cases x with | inl a => exact R.fr h | inr b => exact R'.fr h
  ftr {K H B B2 v x} e h := by cases x with | inl a => exact R.ftr e h | inr b => exact R'.ftr e h
  fanti {K H H0 B v x} e h := by cases x with | inl a => exact R.fanti e h | inr b => exact R'.fanti e h
theorem imm_Ei {α β : Type} {R : Rl α} {R' : Rl β} (i : Imm R) (j : Imm R') : Imm (rEi R R') := fun K H B v x h => by cases x with | inl a => exact i _ _ _ _ _ h | inr b => exact j _ _ _ _ _ h
def inlO : α ⊕ β → Option α | .inl a => some a | .inr _ => none
def inrO : α ⊕ β → Option β | .inl _ => none | .inr b => some b
theorem s_inl {K : Fg} : Sle (R.s K x) ((rEi R R').s K (.inl x)) := fun _ _ h => h
theorem s_inr {K : Fg} {y : β} : Sle (R'.s K y) ((rEi R R').s K (.inr y)) := fun _ _ h => h
theorem g_inl {K : Fg} : Sle (R.g K H x) ((rEi R R').g K H (.inl x)) := fun _ _ h => h
theorem g_inr {K : Fg} {y : β} : Sle (R'.g K H y) ((rEi R R').g K H (.inr y)) := fun _ _ h => h
theorem c_inl {K : Fg} {z : α ⊕ β} (h : inlO z = some x) : Sle ((rEi R R').s K z) (R.s K x) := by
  cases z with
  | inl a => cases h; exact fun _ _ h => h
  | inr b => cases h
theorem c_inr {K : Fg} {z : α ⊕ β} {y : β} (h : inrO z = some y) : Sle ((rEi R R').s K z) (R'.s K y) := by
  cases z with
  | inl a => cases h
  | inr b => cases h; exact fun _ _ h => h
theorem s_T2 {K : Fg} {R2 : Rl γ} {z : β} {y : γ} (h : Sle (R'.s K z) (R2.s K y)) : Sle ((rT2 R R').s K (x, z)) ((rT2 R R2).s K (x, y)) := fun v B ⟨p, v1, v2, a, b, d, e⟩ => ⟨p, v1, v2, a, b, d, h _ _ e⟩
def sndO (f : β → Option γ) (z : α × β) : Option (α × γ) := (f z.2).map fun y => (z.1, y)
theorem c_T2 {K : Fg} {R2 : Rl γ} {f : β → Option γ} {z : α × β} {y : α × γ} (k : ∀ b d, f b = some d → Sle (R'.s K b) (R2.s K d)) (h : sndO f z = some y) : Sle ((rT2 R R').s K z) ((rT2 R R2).s K y) := by
  obtain ⟨a, b⟩ := z
  obtain ⟨d, hd, rfl⟩ := Option.map_eq_some_iff.mp h
  exact s_T2 (k _ _ hd)
def allO (f : α → Option β) : List α → Option (List β)
  | [] => some []
  | x :: xs => match f x, allO f xs with | some y, some ys => some (y :: ys) | _, _ => none
theorem allO_p {f : α → Option β} {F : V → α → Prop} {G : V → β → Prop} (k : ∀ v a b, f a = some b → F v a → G v b) : ∀ {vs : List V} {xs : List α} {ys : List β}, allO f xs = some ys → Paired F vs xs → Paired G vs ys
  | _, [], _, h, .nil => by cases h; exact .nil
  | _, x :: xs, ys, h, .cons a t => by
    unfold allO at h
    split at h
    · rename_i y ys' h1 h2
      cases h
      exact .cons (k _ _ _ h1 a) (allO_p k h2 t)
    · cases h
theorem c_lst {K : Fg} {f : α → Option β} {zs : List β} (k : ∀ b d, f b = some d → Sle (R.s K b) (R'.s K d)) (h : allO f xs = some zs) : Sle ((rLst R).s K xs) ((rLst R').s K zs) := fun v B ⟨p, vs, a, b, d⟩ => ⟨p, vs, a, b, allO_p (fun v x y e q => k x y e v B q) h d⟩
theorem c_tpl {K : Fg} {f : α → Option β} {zs : List β} (k : ∀ b d, f b = some d → Sle (R.s K b) (R'.s K d)) (h : allO f xs = some zs) : Sle ((rTpl R).s K xs) ((rTpl R').s K zs) := fun v B ⟨p, vs, a, b, d⟩ => ⟨p, vs, a, b, allO_p (fun v x y e q => k x y e v B q) h d⟩
theorem c_lstN {K : Fg} {f : α → Option β} {zs : List β} (k : ∀ b d, f b = some d → Sle (R.s K b) (R'.s K d)) (h : allO f xs = some zs) : Sle (SN R K H xs) (SN R' K H zs) := fun v B ⟨p, vs, a, n, b, d⟩ => ⟨p, vs, a, n, b, allO_p (fun v x y e q => k x y e v B q) h d⟩
def idO (x : Option α) : Option α := x
theorem c_opt {K : Fg} : ∀ (b : Option α) (d : α), idO b = some d → Sle ((rOpt R).s K b) (R.s K d) := fun b d h => by cases (show b = some d from h); exact fun _ _ h => h
def dqOptI : Dq (rOpt rInt) := ⟨fun x => match x with | none => .none | some i => .int i, 0, fun {K B v x} h => by
    cases x with
    | none => cases (show v = .non from h); exact .non
    | some i => cases (show v = .int i from h); exact .int i, fun x => by cases x <;> rfl, fun x => by cases x <;> exact Nat.le_refl _, fun x y => by
    cases x with
    | none => cases y with
      | none => exact ⟨fun _ => rfl, fun _ => rfl⟩
      | some j => exact ⟨fun h => (nomatch h), fun h => nomatch h⟩
    | some i => cases y with
      | none => exact ⟨fun h => (nomatch h), fun h => nomatch h⟩
      | some j =>
        show (i == j) = true ↔ some i = some j
        rw [beq_iff_eq, Option.some.injEq]⟩
/-- short words -/
def Tag := { s : Str // (PyData.str s).canLay0 = true }
instance : DecidableEq Tag := fun a b => decidable_of_iff (a.1 = b.1) ⟨Subtype.ext, fun h => congrArg _ h⟩
def tg (s : Str) (h : (PyData.str s).canLay0 = true) : Tag := ⟨s, h⟩
def rTag : Rl Tag := flat fun v s => v = .str s.1
theorem ev_tag (t : Tag) : Ev c (tC (.str t.1)) σ B ks os os (rTag.s c.K t) := ev_c fun _ => rfl
def dqTag : Dq rTag := ⟨fun t => .str t.1, 0, fun h => by cases (show _ = V.str _ from h); exact .str _, fun t => t.2, fun _ => Nat.le_refl _, fun x y => by
  show (x.1 == y.1) = true ↔ x = y
  rw [beq_iff_eq]
  exact ⟨Subtype.ext, fun h => congrArg _ h⟩⟩
theorem nn_tag : ∀ (K : Fg) (B : Hp) (v : V) (a : Tag), rTag.r K B v a → v ≠ .non := fun K B v a h z => by cases (show v = V.str a.1 from h); cases z
def memD {α : Type} [DecidableEq α] (x : α) (xs : List α) : Bool := decide (x ∈ xs)
theorem ev_inM [DecidableEq α] (Dd : Dq R) (ha : Ev c ta σ B ks o1 o2 (R.s c.K x)) (hb : Ev c tb σ B ks o2 o3 T) (ht : SrcL c ks o3 T R ys) (hk : Dd.k + 1 ≤ 64 := by decide) : Ev c (tOp (rInD c.K) ta tb) σ B ks o1 o3 (rBool.s c.K (memD x ys)) := ev_inD Dd ha hb ht hk
theorem ev_notInM [DecidableEq α] (Dd : Dq R) (ha : Ev c ta σ B ks o1 o2 (R.s c.K x)) (hb : Ev c tb σ B ks o2 o3 T) (ht : SrcL c ks o3 T R ys) (hk : Dd.k + 1 ≤ 64 := by decide) : Ev c (tOp (rNotInD c.K) ta tb) σ B ks o1 o3 (rBool.s c.K (!memD x ys)) := ev_notInD Dd ha hb ht hk
def idxG [DecidableEq α] (y : α) : List α → Option Nat
  | [] => none
  | x :: xs => if x = y then some 0 else (idxG y xs).map (· + 1)
theorem idxG_spec [DecidableEq α] {y : α} : ∀ {xs : List α} {k : Nat}, idxG y xs = some k → xs[k]? = some y ∧ ∀ m z, m < k → xs[m]? = some z → z ≠ y
  | [], _, h => by cases h
  | x :: xs, k, h => by
    unfold idxG at h
    split at h
    · rename_i hx; cases h; exact ⟨by simp [hx], fun m z hm => absurd hm (Nat.not_lt_zero _)⟩
    · rename_i hx
      obtain ⟨j, hj, rfl⟩ := Option.map_eq_some_iff.mp h
      obtain ⟨a, b⟩ := idxG_spec hj
      refine ⟨by simpa using a, fun m z hm hz => ?_⟩
      cases m with
      | zero => simp at hz; subst hz; exact hx
      | succ m => exact b m z (by omega) (by simpa using hz)
def idxGO [DecidableEq α] (xs : List α) (y : α) : Option Int := (idxG y xs).map Int.ofNat
theorem ev_indexD [DecidableEq α] (Dd : Dq R) {z : Int} (ha : Ev c ta σ B ks o1 o2 S) (hb : Ev c tb σ B ks o2 o3 (R.s c.K y)) (hs1 : SrcL c ks o2 S R xs) (hs : SrcL c ks o3 S R xs) (h : idxGO xs y = some z) (hk : Dd.k + 1 ≤ 64 := by decide) : Ev c (tBM c.K "list" (rIndexD c.K) ta (tCons tb tNil)) σ B ks o1 o3 (rInt.s c.K z) := fun B1 H1 e w Q q =>
  ha B1 H1 e w _ fun x B2 H2 e2 w2 s => by
    obtain ⟨p, vs, rfl, a, _, d⟩ := hs1 x B2 H2 w2 s
    refine ⟨ty_list a, hb B2 H2 (e.trans e2) w2 _ fun y' B3 H3 e3 w3 t => ?_⟩
    obtain ⟨p', vs', ep, a', _, d'⟩ := hs _ B3 H3 w3 (S.mono e3 s)
    cases ep
    obtain ⟨k, hk', rfl⟩ := Option.map_eq_some_iff.mp h
    obtain ⟨k1, k2⟩ := idxG_spec hk'
    refine ⟨p, y', Dd.d y, xs.map Dd.d, k, Dd.d y, rfl, rfl, .lst (SqL.of a') (dpall Dd (pmap d' fun _ _ z => R.mono w3.ex z)), sq_sl w3.ex (Dd.dp t), shp (dqLst Dd) hk xs, shp Dd (by omega) y, by rw [List.getElem?_map, k1]; rfl, by rw [eqv_dec]; exact decide_eq_true rfl, fun m z' hm hz => ?_, q _ B3 H3 (e2.trans e3) w3 rfl⟩
    rw [List.getElem?_map] at hz
    cases hzm : xs[m]? with
    | none => rw [hzm] at hz; cases hz
    | some u =>
      rw [hzm] at hz; cases hz
      rw [eqv_dec]
      exact decide_eq_false (k2 m u hm hzm)
/-- four things -/
def rT4 {α β γ δ : Type} (R1 : Rl α) (R2 : Rl β) (R3 : Rl γ) (R4 : Rl δ) : Rl (α × β × γ × δ) where
  r K B v x := ∃ p v1 v2 v3 v4, v = .ref p ∧ SqT K B p [v1, v2, v3, v4] ∧ R1.r K B v1 x.1 ∧ R2.r K B v2 x.2.1 ∧ R3.r K B v3 x.2.2.1 ∧ R4.r K B v4 x.2.2.2
  f K H B v x := ∃ p v1 v2 v3 v4, v = .ref p ∧ SqT K B p [v1, v2, v3, v4] ∧ R1.f K H B v1 x.1 ∧ R2.f K H B v2 x.2.1 ∧ R3.f K H B v3 x.2.2.1 ∧ R4.f K H B v4 x.2.2.2
  mono e h := let ⟨p, v1, v2, v3, v4, a, b, c1, c2, c3, c4⟩ := h; ⟨p, v1, v2, v3, v4, a, sqt_same e b, R1.mono e c1, R2.mono e c2, R3.mono e c3, R4.mono e c4⟩
  fr h := let ⟨p, v1, v2, v3, v4, a, b, c1, c2, c3, c4⟩ := h; ⟨p, v1, v2, v3, v4, a, b, R1.fr c1, R2.fr c2, R3.fr c3, R4.fr c4⟩
  ftr e h := let ⟨p, v1, v2, v3, v4, a, b, c1, c2, c3, c4⟩ := h; ⟨p, v1, v2, v3, v4, a, sqt_tr e b, R1.ftr e c1, R2.ftr e c2, R3.ftr e c3, R4.ftr e c4⟩
  fanti e h := let ⟨p, v1, v2, v3, v4, a, b, c1, c2, c3, c4⟩ := h; ⟨p, v1, v2, v3, v4, a, b, R1.fanti e c1, R2.fanti e c2, R3.fanti e c3, R4.fanti e c4⟩
theorem imm_T4 {α β γ δ : Type} {R1 : Rl α} {R2 : Rl β} {R3 : Rl γ} {R4 : Rl δ} (i1 : Imm R1) (i2 : Imm R2) (i3 : Imm R3) (i4 : Imm R4) : Imm (rT4 R1 R2 R3 R4) := fun _ _ _ _ _ ⟨p, v1, v2, v3, v4, a, b, c1, c2, c3, c4⟩ => ⟨p, v1, v2, v3, v4, a, b, i1 _ _ _ _ _ c1, i2 _ _ _ _ _ c2, i3 _ _ _ _ _ c3, i4 _ _ _ _ _ c4⟩
section
variable {δ : Type} {R4 : Rl δ} {z4 : α × β × γ × δ}
theorem ev_T4 {x1 : α} {x2 : β} {x3 : γ} {x4 : δ} (ha : EvA c tl σ B ks o1 o2 [R.s c.K x1, R'.s c.K x2, R''.s c.K x3, R4.s c.K x4]) : Ev c (tTup tl) σ B ks o1 o2 ((rT4 R R' R'' R4).s c.K (x1, x2, x3, x4)) := fun B1 H1 e w Q k => ha B1 H1 e w _ fun vs B2 H2 e2 w2 ss => by
  obtain ⟨v1, v2, v3, v4, rfl, h1, h2, h3, h4⟩ := pn4 ss
  exact ⟨by show 4 ≤ sizeLine; decide, new_tup w2 fun v B3 H3 e3 w3 ⟨p, a, b⟩ => k v B3 H3 (e2.trans e3) w3 ⟨p, _, _, _, _, a, SqT.of b, R.mono e3 h1, R'.mono e3 h2, R''.mono e3 h3, R4.mono e3 h4⟩⟩
theorem ev_lenT4 (ha : Ev c ta σ B ks o1 o2 ((rT4 R R' R'' R4).s c.K z4)) : Ev c (tCB (fun xs H Q => ∃ p ys, xs = [.ref p] ∧ (SqL c.K H p ys ∨ SqT c.K H p ys) ∧ Q (.int ys.length) H) (tCons ta tNil)) σ B ks o1 o2 (rInt.s c.K (4 : Int)) :=
  ev_cb1 ha fun x B2 H2 w ⟨p, v1, v2, v3, v4, a, b, _⟩ Q k => ⟨p, _, by rw [a], .inr (sqt_same w.ex b), k _ B2 H2 (Same.refl _) w rfl⟩
theorem ev_T4a (ha : Ev c ta σ B ks o1 o2 ((rT4 R R' R'' R4).s c.K z4)) : Ev c (tOp (rIxT c.K) ta (tC (.int 0))) σ B ks o1 o2 (R.s c.K z4.1) :=
  ev_op0 ha ev_int fun a b B2 H2 w ⟨p, v1, v2, v3, v4, e, h, d1, d2, d3, d4⟩ t => ⟨v1, d1, fun Q k => ⟨p, _, 0, v1, e, t, sqt_same w.ex h, rfl, k⟩⟩
theorem ev_T4b (ha : Ev c ta σ B ks o1 o2 ((rT4 R R' R'' R4).s c.K z4)) : Ev c (tOp (rIxT c.K) ta (tC (.int 1))) σ B ks o1 o2 (R'.s c.K z4.2.1) :=
  ev_op0 ha ev_int fun a b B2 H2 w ⟨p, v1, v2, v3, v4, e, h, d1, d2, d3, d4⟩ t => ⟨v2, d2, fun Q k => ⟨p, _, 1, v2, e, t, sqt_same w.ex h, rfl, k⟩⟩
theorem ev_T4c (ha : Ev c ta σ B ks o1 o2 ((rT4 R R' R'' R4).s c.K z4)) : Ev c (tOp (rIxT c.K) ta (tC (.int 2))) σ B ks o1 o2 (R''.s c.K z4.2.2.1) :=
  ev_op0 ha ev_int fun a b B2 H2 w ⟨p, v1, v2, v3, v4, e, h, d1, d2, d3, d4⟩ t => ⟨v3, d3, fun Q k => ⟨p, _, 2, v3, e, t, sqt_same w.ex h, rfl, k⟩⟩
theorem ev_T4d (ha : Ev c ta σ B ks o1 o2 ((rT4 R R' R'' R4).s c.K z4)) : Ev c (tOp (rIxT c.K) ta (tC (.int 3))) σ B ks o1 o2 (R4.s c.K z4.2.2.2) :=
  ev_op0 ha ev_int fun a b B2 H2 w ⟨p, v1, v2, v3, v4, e, h, d1, d2, d3, d4⟩ t => ⟨v4, d4, fun Q k => ⟨p, _, 3, v4, e, t, sqt_same w.ex h, rfl, k⟩⟩
end
/-! ### what is handed in is changed, the answer may be any -/
def Pr1a {γ δ ε : Type} (K : Fg) (as : γ → Addr → List Sv) (Ci : γ → Cs) (m : γ → Option (δ × ε)) (Co : ε → Cs) (Rr : Rl δ) : Sp := fun vs H Q _ => ∃ g p z B o, Paired (fun v S => Sv.p S v B) vs (as g p) ∧ Same B H ∧ H p = some o ∧ B p = none ∧ isM o = true ∧ (Ci g).p B o ∧ m g = some z ∧
  ∀ v B' H' o', Stp [p] B H B' H' → Same B' H' → H' p = some o' → isM o' = true → (Co z.2).p B' o' → Rr.r K B' v z.1 → Q v H'
theorem ev_call1a {γ δ ε : Type} {as : γ → Addr → List Sv} {Ci : γ → Cs} {m : γ → Option (δ × ε)} {Co : ε → Cs} {Rr : Rl δ} {g : γ} {z : δ × ε} {E : XK} {tl : TA} (i : Nat) (hk : ks[i]? = some q) (ha : EvA c tl σ B ks o1 o2 Ss) (ho : o2[i]? = some (Ci g)) (hl : ALe c ks o2 [] Ss (as g q)) (hm : m g = some z) :
    Ev c (tCall (Pr1a c.K as Ci m Co Rr) [] E tl) σ B ks o1 (o2.set i (Co z.2)) (Rr.s c.K z.1) := fun B1 H1 e w Q q0 =>
  ha B1 H1 e w _ fun vs B2 H2 e2 w2 ss => by
    show Pr1a c.K as Ci m Co Rr (vs ++ []) H2 Q E
    rw [List.append_nil]
    have l := hl B2 H2 w2
    rw [expo_nil] at l
    obtain ⟨o, h1, b1, m1, c1⟩ := w2.cell.get hk ho
    refine ⟨g, q, z, B2, o, p_le (P := fun _ _ => True) (vs := []) ss l, w2.ex, h1, b1, m1, c1, hm, fun v B' H' o' st ex h' m' c' r => ?_⟩
    have off : ∀ a ∈ ks, B' a = none := fun a ha => by
      obtain ⟨b0, o2', h2, _⟩ := w2.cell.off a ha
      rw [st.old a (by rw [h2]; exact fun z => nomatch z)]
      exact b0
    refine q0 v B' H' (e2.trans st.up) ⟨ex, w2.nd, pset2 i w2.nd w2.cell hk (fun a u en ⟨o2', q1, q2, q3, q4⟩ => ?_) ⟨o', h', off q (List.mem_of_getElem? hk), m', c'⟩, w2.own, ?_, fun a h => st.tr a (w2.hs a h)⟩ r
    · refine ⟨o2', st.keep a o2' q1 (by simpa using en), ?_, q3, u.mono st.up q4⟩
      rw [st.old a (by rw [q1]; exact fun z => nomatch z)]
      exact q2
    · refine ⟨w2.st.up.trans st.up, fun a h => (st.old a (w2.st.tr a h)).trans (w2.st.old a h), fun a u h n => ?_, fun a h => st.tr a (w2.st.tr a h)⟩
      refine st.keep a u (w2.st.keep a u h n) fun en => ?_
      rw [List.mem_singleton] at en
      subst en
      rcases w2.own a (List.mem_of_getElem? hk) with z | z
      · exact n z
      · rw [z] at h; cases h
end
end Dl

/-! Ev9 -/
set_option Elab.async false
set_option linter.all false
set_option maxRecDepth 100000
set_option maxHeartbeats 2000000
namespace Dl
open PySem PySem.Spec L2 PyProof.Rows
/-- may raise, the answer may be any -/
def PrXa {γ δ : Type} (K : Fg) (ga : Str → Addr) (as : γ → List Sv) (m : γ → Rs δ) (Rr : Rl δ) : Sp := fun vs H Q E => ∃ g y B, Paired (fun v S => Sv.p S v B) vs (as g) ∧ Same B H ∧ m g = some y ∧
  match y with
  | .ok y => ∀ v B' H', Stp [] B H B' H' → Same B' H' → Rr.r K B' v y → Q v H'
  | .error x => ∀ cls d B' H', Stp [] B H B' H' → Same B' H' → XR ga x cls d B' → E cls d H'
def pinC (B : Hp) (s : Cs) : Cs := ⟨fun _ o => s.p B o, fun _ h => h⟩
theorem csi_pin {B : Hp} {s : Cs} : CsI (pinC B s) := fun _ _ _ _ h => h
/-- the list of the rows' places -/
def CO (rs : List Addr) : Cs := ⟨fun _ o => o = .lst (rs.map V.ref), fun _ h => h⟩
theorem csi_CO {rs : List Addr} : CsI (CO rs) := fun _ _ _ _ h => h
def RwF (H B : Hp) : Addr → List Int → Prop := fun q xs => H q = none ∧ B q = some (.lst (xs.map V.int))
theorem pmap2 {α β : Type} {F G : α → β → Prop} {l : List α} {m : List β} (h : Paired F l m) (k : ∀ a b, a ∈ l → F a b → G a b) : Paired G l m := by
  induction h with
  | nil => exact .nil
  | cons a t ih => exact .cons (k _ _ List.mem_cons_self a) (ih fun a b h => k a b (List.mem_cons_of_mem _ h))
theorem ints_v {K : Fg} {B : Hp} : ∀ (ys : List Int), Paired (rInt.r K B) (ys.map V.int) ys
  | [] => .nil
  | y :: ys => .cons rfl (ints_v ys)
theorem rows_r {K : Fg} {B : Hp} {H : Hp} : ∀ {rs : List Addr} {xss : List (List Int)}, Paired (RwF H B) rs xss → Paired ((rLst rInt).r K B) (rs.map V.ref) xss
  | _, _, .nil => .nil
  | _, _, .cons a t => .cons ⟨_, _, rfl, a.2, ints_v _⟩ (rows_r t)
/-- a list of lists of ints; new: the rows are new and apart -/
def rLL : Rl (List (List Int)) where
  r K B v x := (rLst (rLst rInt)).r K B v x
  f K H B v xss := ∃ p rs, v = .ref p ∧ H p = none ∧ B p = some (.lst (rs.map V.ref)) ∧ rs.Nodup ∧ Paired (RwF H B) rs xss
  mono e h := (rLst (rLst rInt)).mono e h
  fr h := let ⟨p, rs, a, _, b, _, d⟩ := h; ⟨p, _, a, b, rows_r d⟩
  ftr e h := let ⟨p, rs, a, n, b, nd, d⟩ := h; ⟨p, rs, a, n, e _ _ b (.inr n), nd, pmap d fun q xs z => ⟨z.1, e _ _ z.2 (.inr z.1)⟩⟩
  fanti {K H H0 B v x} e h := by
    have no : ∀ a, H a = none → H0 a = none := fun a n => by
      cases z : H0 a with
      | none => rfl
      | some o => exact absurd n (e a (by rw [z]; exact fun q => nomatch q))
    obtain ⟨p, rs, a, n, b, nd, d⟩ := h
    exact ⟨p, rs, a, no _ n, b, nd, pmap d fun q xs z => ⟨no _ z.1, z.2⟩⟩
def rowO (rows : List (List Int)) (n : Int) : Option (Nat × List Int) := match ixN rows.length n with
  | none => none
  | some j => match rows[j]? with
    | none => none
    | some r => some (j, r)
theorem rowO_eq {rows : List (List Int)} {n : Int} {j : Nat} {r : List Int} (h : rowO rows n = some (j, r)) : ixN rows.length n = some j ∧ rows[j]? = some r := by
  unfold rowO at h
  split at h
  · cases h
  · rename_i j' hj
    split at h
    · cases h
    · rename_i r' hr
      cases h
      exact ⟨hj, hr⟩
theorem rs_at {rs : List Addr} {rows : List (List Int)} {j : Nat} {r : List Int} (hl : rs.length = rows.length) (h : rows[j]? = some r) : ∃ q, rs[j]? = some q := by
  obtain ⟨hj, _⟩ := List.getElem?_eq_some_iff.mp h
  exact ⟨rs[j]'(by omega), List.getElem?_eq_getElem (by omega)⟩
section
variable {c : Ct} {te ta tb tc : TE} {tt tu : TT} {tl tr : TA} {σ : L2.St} {B H : Hp} {ks : List Addr} {os o1 o2 o3 o4 : List Cs} {S T U : Sv} {Ss Ts : List Sv} {i : Nat} {v : V} {r : R2} {α β γ : Type} {R : Rl α} {R' : Rl β} {xs ys : List α} {x y : α} {p q : Addr} {D : Ends} {rs : List Addr} {xss : List (List Int)}
theorem ll_s {K : Fg} : Sle (rLL.s K xss) ((rLst (rLst rInt)).s K xss) := fun _ _ h => h
theorem s_ll {K : Fg} : Sle ((rLst (rLst rInt)).s K xss) (rLL.s K xss) := fun _ _ h => h
theorem llg_s {K : Fg} : Sle (rLL.g K H xss) ((rLst (rLst rInt)).s K xss) := fun _ _ h => rLL.fr h
theorem ev_callXaok {γ δ : Type} {ga : Str → Addr} {as : γ → List Sv} {m : γ → Rs δ} {Rr : Rl δ} {g : γ} {y : δ} {E : XK} {tl : TA} (ha : EvA c tl σ B ks o1 o2 Ss) (hl : ALe c ks o2 [] Ss (as g)) (hm : m g = some (.ok y)) : Ev c (tCall (PrXa c.K ga as m Rr) [] E tl) σ B ks o1 o2 (Rr.s c.K y) := fun B1 H1 e w Q k =>
  ha B1 H1 e w _ fun vs B2 H2 e2 w2 ss => by
    show PrXa c.K ga as m Rr (vs ++ []) H2 Q E
    rw [List.append_nil]
    have z := hl B2 H2 w2
    rw [expo_nil] at z
    refine ⟨g, .ok y, B2, p_le (P := fun _ _ => True) (vs := []) ss z, w2.ex, hm, fun v B' H' st ex r => k v B' H' (e2.trans st.up) ⟨ex, w2.nd, ?_, w2.own, w2.st.trans ⟨st.up, st.old, fun a o h _ => st.keep a o h (by simp), st.tr⟩, fun a h => st.tr a (w2.hs a h)⟩ r⟩
    exact pmap w2.cell fun a s ⟨o, q1, q2, q3, q4⟩ => ⟨o, st.keep _ _ q1 (by simp), by rw [st.old a (by rw [q1]; exact fun z => nomatch z)]; exact q2, q3, s.mono st.up q4⟩
theorem callXa {γ δ : Type} {ga : Str → Addr} {as : γ → List Sv} {m : γ → Rs δ} {Rr : Rl δ} {g : γ} {x : Xc} {E : XK} {tl : TA} {Q : VK} (w : Wd c B H ks o1) (ha : EvA (c.at H) tl σ B ks o1 o2 Ss) (hl : ALe (c.at H) ks o2 [] Ss (as g)) (hm : m g = some (.error x))
    (er : ∀ cls d B2 H2, Same B B2 → Wd c B2 H2 ks o2 → XR ga x cls d B2 → E cls d H2) : tCall (PrXa c.K ga as m Rr) [] E tl σ H Q :=
  ha B H (Same.refl _) w.at _ fun vs B2 H2 e2 w2 ss => by
    show PrXa c.K ga as m Rr (vs ++ []) H2 Q E
    rw [List.append_nil]
    have z := hl B2 H2 w2
    rw [expo_nil] at z
    have w3 := w.un w2
    refine ⟨g, .error x, B2, p_le (P := fun _ _ => True) (vs := []) ss z, w2.ex, hm, fun cls d B' H' st ex r => er cls d B' H' (e2.trans st.up) ⟨ex, w3.nd, ?_, w3.own, w3.st.trans ⟨st.up, st.old, fun a o h _ => st.keep a o h (by simp), st.tr⟩, fun a h => st.tr a (w3.hs a h)⟩ r⟩
    exact pmap w3.cell fun a s ⟨o, q1, q2, q3, q4⟩ => ⟨o, st.keep _ _ q1 (by simp), by rw [st.old a (by rw [q1]; exact fun z => nomatch z)]; exact q2, q3, s.mono st.up q4⟩
/-! ### a cell is left alone for a while -/
theorem pset1 {F : Addr → Cs → Prop} : ∀ {ks : List Addr} {os : List Cs} (i : Nat) {s s' : Cs}, Paired F ks os → os[i]? = some s → (∀ a, F a s → F a s') → Paired F ks (os.set i s')
  | _, _, _, _, _, .nil, h, _ => by simp at h
  | _, _, 0, s, s', .cons a t, h, k => by simp at h; subst h; exact .cons (k _ a) t
  | _, _, i + 1, s, s', .cons a t, h, k => .cons a (pset1 i t (by simpa using h) k)
theorem Wd.pin (w : Wd c B H ks os) (i : Nat) {s : Cs} (ho : os[i]? = some s) : Wd c B H ks (os.set i (pinC B s)) :=
  ⟨w.ex, w.nd, pset1 i w.cell ho fun a ⟨o, q1, q2, q3, q4⟩ => ⟨o, q1, q2, q3, q4⟩, w.own, w.st, w.hs⟩
theorem Wd.unpin {B0 : Hp} (w : Wd c B H ks os) (i : Nat) {s : Cs} (ho : os[i]? = some (pinC B0 s)) (e : Same B0 B) : Wd c B H ks (os.set i s) :=
  ⟨w.ex, w.nd, pset1 i w.cell ho fun a ⟨o, q1, q2, q3, q4⟩ => ⟨o, q1, q2, q3, s.mono e q4⟩, w.own, w.st, w.hs⟩
/-! ### rows of one's own -/
theorem cel_hids {S : List Addr} (im : ∀ a u, B a = some u → isM u = false → hids S B a = some u) : ∀ {ks : List Addr} {os : List Cs}, AllI os → Cel B H ks os → Cel (hids S B) H ks os
  | _, _, _, .nil => .nil
  | _, _, ai, .cons a b => by
    obtain ⟨o2, q1, q2, q3, q4⟩ := a
    refine .cons ⟨o2, q1, ?_, q3, ai.1 _ _ _ im q4⟩ (cel_hids im ai.2 b)
    unfold hids
    split
    · rfl
    · exact q2
theorem papp2 {α β : Type} {F : α → β → Prop} : ∀ {l l2 : List α} {m m2 : List β}, Paired F l m → Paired F l2 m2 → Paired F (l ++ l2) (m ++ m2)
  | _, _, _, _, .nil, h => h
  | _, _, _, _, .cons a t, h => .cons a (papp2 t h)
theorem psplit {α β : Type} {F : α → β → Prop} : ∀ {l l2 : List α} {m m2 : List β}, l.length = m.length → Paired F (l ++ l2) (m ++ m2) → Paired F l m ∧ Paired F l2 m2
  | [], _, [], _, _, h => ⟨.nil, h⟩
  | [], _, _ :: _, _, e, _ => by cases e
  | _ :: _, _, [], _, e, _ => by cases e
  | a :: l, l2, b :: m, m2, e, .cons q t => by
    obtain ⟨x, y⟩ := psplit (l := l) (m := m) (Nat.succ.inj e) t
    exact ⟨.cons q x, y⟩
theorem pmapR {α β γ : Type} {F : α → β → Prop} {G : α → γ → Prop} {f : β → γ} : ∀ {l : List α} {m : List β}, Paired F l m → (∀ a b, a ∈ l → F a b → G a (f b)) → Paired G l (m.map f)
  | _, _, .nil, _ => .nil
  | _, _, .cons a t, k => .cons (k _ _ List.mem_cons_self a) (pmapR t fun a b h => k a b (List.mem_cons_of_mem _ h))
theorem pmapL {α β γ : Type} {F : α → β → Prop} {G : α → γ → Prop} {f : γ → β} : ∀ {l : List α} {m : List γ}, Paired F l (m.map f) → (∀ a b, a ∈ l → F a (f b) → G a b) → Paired G l m
  | _, [], .nil, _ => .nil
  | _, _ :: _, .cons a t, k => .cons (k _ _ List.mem_cons_self a) (pmapL t fun a b h => k a b (List.mem_cons_of_mem _ h))
theorem pmem {α β : Type} {F : α → β → Prop} : ∀ {l : List α} {m : List β}, Paired F l m → ∀ a ∈ l, ∃ b, F a b
  | _, _, .nil, _, h => nomatch h
  | _, _, .cons q t, a, h => by
    rcases List.mem_cons.mp h with rfl | h
    · exact ⟨_, q⟩
    · exact pmem t a h
/-- x = a new list of new rows -/
theorem s_ownT {j : Nat} (w : Wd c B H ks o1) (h : Ev (c.at H) te σ B ks o1 o2 (rLL.g c.K H xss)) (ai : AllI o2) (k : ∀ p rs B2 H2, Same B B2 → rs.length = xss.length → c.H0 p = none → (∀ r ∈ rs, c.H0 r = none) → Wd c B2 H2 (ks ++ p :: rs) (o2 ++ CO rs :: xss.map (CL rInt c.K)) → D.nx (σ.set j (some (.ref p))) H2) : tAsg te (gName j) D σ H :=
  h B H (Same.refl _) w.at _ fun v B2 H2 e w2 ⟨p, rs, a, n, b, nd, d⟩ => by
    subst a
    have w3 := w.un w2
    have dl := Paired.length d
    have hS : ∀ a ∈ p :: rs, H a = none ∧ ∃ vs, B2 a = some (.lst vs) := fun a ha => by
      rcases List.mem_cons.mp ha with rfl | ha
      · exact ⟨n, _, b⟩
      · obtain ⟨xs, z1, z2⟩ := pmem d a ha
        exact ⟨z1, _, z2⟩
    have np : p ∉ rs := fun m => by
      obtain ⟨xs, z1, z2⟩ := pmem d p m
      rw [b] at z2
      cases rs with
      | nil => cases m
      | cons r0 rs => cases xs <;> cases z2
    have off : ∀ a ∈ p :: rs, a ∉ ks := fun a ha m => by
      obtain ⟨_, vs, z⟩ := hS a ha
      rw [w3.off m] at z; cases z
    have im : ∀ a u, B2 a = some u → isM u = false → hids (p :: rs) B2 a = some u := fun a u z m => by
      rw [hids_off (fun ha => by obtain ⟨_, vs, z2⟩ := hS a ha; rw [z] at z2; cases z2; cases m)]
      exact z
    have up : Same B (hids (p :: rs) B2) := fun a u h => by
      rw [hids_off (fun ha => by have z := w.ex a u h; rw [(hS a ha).1] at z; cases z)]
      exact e a u h
    have n0 : ∀ a ∈ p :: rs, c.H0 a = none := fun a ha => w.new0 (hS a ha).1
    refine k p rs (hids (p :: rs) B2) H2 up dl (w.new0 n) (fun r hr => n0 r (List.mem_cons_of_mem _ hr)) ⟨fun a u h => ?_, ?_, ?_, fun a h => ?_, ?_, w3.hs⟩
    · by_cases ha : a ∈ p :: rs
      · rw [hids_in ha] at h; cases h
      · rw [hids_off ha] at h; exact w3.ex a u h
    · refine List.nodup_append.mpr ⟨w3.nd, List.nodup_cons.mpr ⟨np, nd⟩, fun a ha b hb e => ?_⟩
      subst e
      exact off _ hb ha
    · refine papp2 (cel_hids im ai w3.cell) (.cons ⟨_, w3.ex _ _ b, hids_in List.mem_cons_self, rfl, rfl⟩ (pmapR d fun a xs ha z => ⟨_, w3.ex _ _ z.2, hids_in (List.mem_cons_of_mem _ ha), rfl, _, rfl, ints_v _⟩))
    · rcases List.mem_append.mp h with h | h
      · exact w3.own a h
      · exact .inr (n0 a h)
    · exact ⟨fun a u h => up a u (w.st.up a u h), fun a h => by rw [hids_off (fun ha => h (n0 a ha))]; exact w3.st.old a h, w3.st.keep, w3.st.tr⟩
/-- they are handed back -/
theorem r_grp (w : Wd c B H (ks ++ p :: rs) (os ++ CO rs :: xss.map (CL rInt c.K))) (n : c.H0 p = none) (nr : ∀ r ∈ rs, c.H0 r = none) (hlen : ks.length = os.length) : ∃ B', Same B B' ∧ Wd c B' H ks os ∧ rLL.f c.K c.H0 B' (.ref p) xss := by
  have sub : ∀ a ∈ p :: rs, a ∈ ks ++ p :: rs := fun a h => List.mem_append_right _ h
  obtain ⟨c1, c2⟩ := psplit hlen w.cell
  obtain ⟨nd1, nd2, dj⟩ := List.nodup_append.mp w.nd
  have n0 : ∀ a ∈ p :: rs, c.H0 a = none := fun a h => by
    rcases List.mem_cons.mp h with rfl | h
    · exact n
    · exact nr a h
  have offk : ∀ a ∈ ks, a ∉ p :: rs := fun a h m => dj a h a m rfl
  refine ⟨expo (p :: rs) H B, expo_same w sub, ⟨expo_to w _, nd1, pmap2 c1 fun a s ha ⟨o, q1, q2, q3, q4⟩ => ⟨o, q1, ?_, q3, s.mono (expo_same w sub) q4⟩, fun a h => w.own a (List.mem_append_left _ h), ?_, w.hs⟩, ?_⟩
  · rw [expo_off (offk a ha)]; exact q2
  · exact ⟨w.st.up.trans (expo_same w sub), fun a h => by rw [expo_off (fun m => h (n0 a m))]; exact w.st.old a h, w.st.keep, w.st.tr⟩
  · cases c2 with
    | cons a t =>
      obtain ⟨o, h1, h2, h3, h4⟩ := a
      cases (show o = _ from h4)
      refine ⟨p, rs, rfl, n, by rw [expo_in List.mem_cons_self]; exact h1, (List.nodup_cons.mp nd2).2, pmapL t fun a xs ha ⟨o, q1, q2, q3, vs, e, d⟩ => ⟨nr a ha, ?_⟩⟩
      rw [expo_in (List.mem_cons_of_mem _ ha), q1, e, pints (c := c) d]
theorem Wd.eq {os' : List Cs} (w : Wd c B H ks os) (h : os = os') : Wd c B H ks os' := h ▸ w
theorem len_set {j : Nat} {y : List Int} (h : rs.length = xss.length) : rs.length = (xss.set j y).length := by rw [List.length_set]; exact h
theorem set_at {j : Nat} {y z : List Int} (h : xss[j]? = some z) : (xss.set j y)[j]? = some y := by
  obtain ⟨hj, _⟩ := List.getElem?_eq_some_iff.mp h
  rw [List.getElem?_set_self hj]
theorem allI_rows {K : Fg} : ∀ {xss : List (List Int)}, AllI (xss.map (CL rInt K))
  | [] => trivial
  | _ :: _ => ⟨csi (imm_flat _), allI_rows⟩
theorem s_ifJ2 {tS uS : TS} {ρ : Type} {ks2 : ρ → List Addr} {oo : ρ → List Cs} {b : Bool} (J : ρ → L2.St → Hp → Prop) (Fin : ρ → Prop) (w : Wd c B H ks o1) (h : EvT (c.at H) tt σ B ks o1 o2 b)
    (done : ∀ ρ σ' B' H', Same B B' → Wd c B' H' (ks2 ρ) (oo ρ) → J ρ σ' B' → Fin ρ → D.nx σ' H')
    (k1 : b = true → ∀ B2 H2, Same B B2 → Wd c B2 H2 ks o2 → ∀ N : L2.St → Hp → Prop, (∀ ρ σ' B' H', Same B B' → Wd c B' H' (ks2 ρ) (oo ρ) → J ρ σ' B' → Fin ρ → N σ' H') → tS { D with nx := N } σ H2)
    (k2 : b = false → ∀ B2 H2, Same B B2 → Wd c B2 H2 ks o2 → ∀ N : L2.St → Hp → Prop, (∀ ρ σ' B' H', Same B B' → Wd c B' H' (ks2 ρ) (oo ρ) → J ρ σ' B' → Fin ρ → N σ' H') → uS { D with nx := N } σ H2) : tIfS tt tS uS D σ H :=
  s_if w h (fun hb B2 H2 e w2 => k1 hb B2 H2 e w2 D.nx done) fun hb B2 H2 e w2 => k2 hb B2 H2 e w2 D.nx done
/-- X[i], a row -/
theorem ev_row {n : Int} {j : Nat} (i : Nat) (hk : ks[i]? = some p) (ha : Ev c ta σ B ks o1 o2 (SA p)) (hb : Ev c tb σ B ks o2 o3 (rInt.s c.K n)) (ho : o3[i]? = some (CO rs)) (hl : rs.length = xss.length) (hj : ixN xss.length n = some j) (hq : rs[j]? = some q) : Ev c (tOp (rIxL c.K) ta tb) σ B ks o1 o3 (SA q) :=
  ev_op0 ha hb fun a b B2 H2 w s t => by
    cases (show a = .ref p from s)
    cases (show b = .int n from t)
    obtain ⟨o, h1, _, _, h4⟩ := w.cell.get hk ho
    cases (show o = _ from h4)
    refine ⟨.ref q, rfl, fun Q k => ⟨p, _, n, .ref q, rfl, rfl, SqL.of h1, ?_, k⟩⟩
    unfold atI
    rw [List.length_map, hl, hj]
    show (rs.map V.ref)[j]? = _
    rw [List.getElem?_map, hq]
    rfl
/-- the rows, read by another -/
theorem al_T {ks' : List Addr} (pre : List Addr) (po : List Cs) (hks : ks = pre ++ p :: rs) (hos : os = po ++ CO rs :: xss.map (CL rInt c.K)) (hlen : pre.length = po.length) (hm : ∀ a ∈ p :: rs, a ∈ ks') (hs : ∀ a ∈ ks', a ∈ ks) (h : ALe c ks os ks' Ss Ts) : ALe c ks os ks' (SA p :: Ss) ((rLst (rLst rInt)).s c.K xss :: Ts) := fun B H w => .cons (fun v z => by
  have w0 := w
  subst hks hos
  obtain ⟨c1, c2⟩ := psplit hlen w.cell
  cases c2 with
  | cons a t =>
    obtain ⟨o, h1, h2, h3, h4⟩ := a
    cases (show o = _ from h4)
    refine ⟨p, _, z, by rw [expo_in (hm p List.mem_cons_self)]; exact h1, ?_⟩
    have t2 : Paired (RwF (fun _ => none) (expo ks' H B)) rs xss := pmapL t fun a xs ha ⟨o, q1, q2, q3, vs, e, d⟩ => ⟨rfl, by rw [expo_in (hm a (List.mem_cons_of_mem _ ha)), q1, e, pints (c := c) d]⟩
    exact rows_r t2) (h B H w)
/-- pairs with something new -/
theorem ev_T2g {z : β} {tl : TA} (ha : EvA c tl σ B ks o1 o2 [R.g c.K c.Hs x, R'.g c.K c.Hs z]) : Ev c (tTup tl) σ B ks o1 o2 ((rT2 R R').g c.K c.Hs (x, z)) := fun B1 H1 e w Q k => ha B1 H1 e w _ fun vs B2 H2 e2 w2 ss => by
  obtain ⟨v1, v2, rfl, h1, h2⟩ := pn2 ss
  exact ⟨by show 2 ≤ sizeLine; decide, new_tup w2 fun v B3 H3 e3 w3 ⟨p, a, b⟩ => k v B3 H3 (e2.trans e3) w3 ⟨p, _, _, a, SqT.of b, Sv.mono (R.g c.K c.Hs x) e3 h1, Sv.mono (R'.g c.K c.Hs z) e3 h2⟩⟩
/-! ### comprehensions that make new rows -/
def CF (Hs : Hp) (rs : List Addr) (acc : List (List Int)) : Cs := ⟨fun B o => o = .lst (rs.map V.ref) ∧ rs.Nodup ∧ Paired (RwF Hs B) rs acc, fun e h => ⟨h.1, h.2.1, pmap h.2.2 fun _ _ q => ⟨q.1, e _ _ q.2⟩⟩⟩
theorem nodup_snoc {α : Type} {l : List α} {a : α} (h : l.Nodup) (n : a ∉ l) : (l ++ [a]).Nodup := by
  refine List.nodup_append.mpr ⟨h, by simp, fun b hb d hd e => ?_⟩
  rw [List.mem_singleton] at hd
  subst e hd
  exact n hb
theorem ev_lcF {ρ : Type} {wi : TI} {g : TG} {vs : List Nat} {oo : ρ → List Cs} {ρ0 : ρ} {z : List (List Int) × ρ} (tf : α → ρ → Option (Bool × ρ)) (ef : α → ρ → Option (List Int × ρ)) (T : α → Hp → L2.St → Prop) (hi : EvI c wi σ B ks o1 (oo ρ0) R xs) (hz : lcO tf ef xs ρ0 = some z)
    (tm : ∀ x B1 B2 σ2, Same B1 B2 → T x B1 σ2 → T x B2 σ2)
    (hg : ∀ v x B' H' (ks' : List Addr) (os' : List Cs), Wd c B' H' ks' os' → R.r c.K B' v x → ∀ P : L2.St → Hp → Prop, (∀ σ2, wipe σ2 vs = wipe σ vs → T x B' σ2 → P σ2 H') → g v (wipe σ vs) H' P)
    (ht : ∀ x r b r1 σ2 B' p (s : Cs), tf x r = some (b, r1) → Same B B' → T x B' σ2 → EvT c tt σ2 B' (p :: ks) (s :: oo r) (s :: oo r1) b)
    (he : ∀ Hh x r y r1 σ2 B' p (s : Cs), ef x r = some (y, r1) → Same B B' → T x B' σ2 → Ev (c.at Hh) te σ2 B' (p :: ks) (s :: oo r) (s :: oo r1) (SN rInt c.K Hh y)) :
    Ev c (tLc wi g tt te vs) σ B ks o1 (oo z.2) (rLL.g c.K c.Hs z.1) := fun B1 H1 e1 w1 Q k => by
  unfold lcO at hz
  split at hz
  · rename_i hl
    refine hi B1 H1 e1 w1 _ fun It B2 H2 e2 w2 sp => ?_
    intro Dl hn
    have w3 : Wd c B2 (upd H2 Dl (.lst [])) (Dl :: ks) (CF c.Hs [] [] :: oo ρ0) := w2.own_new hn rfl ⟨rfl, .nil, .nil⟩
    have n0 : c.H0 Dl = none := w2.new0 hn
    have ns : c.Hs Dl = none := w2.news hn
    refine ⟨fun i m H' => m = xs.length - i ∧ i ≤ xs.length ∧ ∃ r acc rs B', Same B B' ∧ Same B2 B' ∧ Wd c B' H' (Dl :: ks) (CF c.Hs rs acc :: oo r) ∧ acc.length ≤ i ∧ ∃ u, lcM tf ef (xs.drop i) r = some u ∧ z = (acc ++ u.1, u.2), ⟨_, rfl, Nat.zero_le _, ρ0, [], [], B2, e1.trans e2, Same.refl _, w3, Nat.zero_le _, z, hz, rfl⟩, ?_⟩
    rintro i m H' ⟨rfl, hil, r, acc, rs, B', e, e3, w, hacc, u, hu, hzz⟩
    obtain ⟨s1, s2⟩ := sp c i B' H' _ _ rfl e3 w
    by_cases hlt : i < xs.length
    · have hx : xs[i]? = some xs[i] := List.getElem?_eq_getElem hlt
      obtain ⟨go, yl⟩ := s1 _ hx
      rw [List.drop_eq_getElem_cons hlt] at hu
      refine .inr ⟨go, fun H' => ∃ r acc rs B', Same B B' ∧ Same B2 B' ∧ Wd c B' H' (Dl :: ks) (CF c.Hs rs acc :: oo r) ∧ acc.length ≤ i + 1 ∧ ∃ u, lcM tf ef (xs.drop (i + 1)) r = some u ∧ z = (acc ++ u.1, u.2), ?_, ?_⟩
      · rintro H3 ⟨r, acc, rs, B', a1, a2, a3, a4, a5⟩
        exact ⟨xs.length - (i + 1), by omega, rfl, hlt, r, acc, rs, B', a1, a2, a3, a4, a5⟩
      · intro v H'' hy
        obtain ⟨B3, e6, w6, r6⟩ := yl v H'' hy
        refine hg v _ B3 H'' _ _ w6 r6 _ fun σ2 hw hT => ⟨hw, ?_⟩
        unfold lcM at hu
        cases htf : tf xs[i] r with
        | none => rw [htf] at hu; cases hu
        | some br =>
          obtain ⟨b, r1⟩ := br
          rw [htf] at hu
          refine ht _ r b r1 σ2 B3 Dl _ htf (e.trans e6) hT B3 H'' (Same.refl _) w6 _ fun B4 H4 e7 w7 => ?_
          cases b with
          | false =>
            show ∃ r acc rs B', _
            exact ⟨r1, acc, rs, B4, (e.trans e6).trans e7, (e3.trans e6).trans e7, w7, by omega, u, hu, hzz⟩
          | true =>
            rw [if_pos rfl]
            simp only at hu
            cases hef : ef xs[i] r1 with
            | none => rw [hef] at hu; cases hu
            | some yr =>
              obtain ⟨y, r2⟩ := yr
              rw [hef] at hu
              simp only at hu
              cases hr : lcM tf ef (xs.drop (i + 1)) r2 with
              | none => rw [hr] at hu; cases hu
              | some u2 =>
                obtain ⟨ys, r3⟩ := u2
                rw [hr] at hu
                simp only at hu
                cases hu
                refine he H4 _ r1 y r2 σ2 B4 Dl _ hef ((e.trans e6).trans e7) (tm _ _ _ _ e7 hT) B4 H4 (Same.refl _) w7.at _ fun y' B5 H5 e8 w8' sy => ?_
                have w8 := w7.un w8'
                obtain ⟨q', vs', ey, nq, bq, dq⟩ := sy
                subst ey
                have ev := pints (c := c) dq
                subst ev
                obtain ⟨o, h5, _, _, rfl, nd, d⟩ := w8.cell.get (i := 0) rfl rfl
                obtain ⟨oo7, h7, _, _, e77, nd7, d7⟩ := w7.cell.get (i := 0) rfl rfl
                have hlen : rs.length = acc.length := Paired.length d
                have nin : q' ∉ rs := fun m => by
                  obtain ⟨xs', z1, z2⟩ := pmem d7 q' m
                  have z3 := w7.ex _ _ z2
                  rw [nq] at z3; cases z3
                refine ⟨rs.map V.ref, h5, by rw [List.length_map, hlen, sizeLine_eq]; omega, r2, acc ++ [y], rs ++ [q'], B5, ((e.trans e6).trans e7).trans e8, ((e3.trans e6).trans e7).trans e8, w8.put (s := CF c.Hs (rs ++ [q']) (acc ++ [y])) 0 rfl rfl ?_, by rw [List.length_append]; simp; omega, (ys, r3), hr, ?_⟩
                · exact ⟨by rw [List.map_append]; rfl, nodup_snoc nd nin, papp2 d (.cons ⟨w7.news nq, bq⟩ .nil)⟩
                · rw [hzz, List.append_assoc]
                  rfl
    · have ei : i = xs.length := by omega
      subst ei
      rw [List.drop_length] at hu
      cases hu
      refine .inl ⟨s2 (Nat.le_refl _), ?_⟩
      obtain ⟨o, h5, ⟨rfl, nd, d⟩, up, w5⟩ := w.freeze n0
      have := k (.ref Dl) _ H' ((e3.trans up) |> fun z => (e2.trans z)) (by rw [hzz]; exact w5) (by
        rw [hzz]
        show ∃ p rs, _
        exact ⟨Dl, rs, rfl, ns, upd_same, nd, by rw [List.append_nil]; exact pmap d fun a xs q => ⟨q.1, up _ _ q.2⟩⟩)
      exact this
  · cases hz
end
end Dl

/-! Ev10 -/
set_option Elab.async false
set_option linter.all false
set_option maxRecDepth 100000
set_option maxHeartbeats 2000000
namespace Dl
open PySem PySem.Spec L2 PyProof.Rows
abbrev SuiteT := Addr → Value → Option Addr → TS
/-- an except clause: without a name, with one (its slot) -/
inductive Hd where
  | p (c : Value) (ts : SuiteT)
  | a (c : Value) (i : Nat) (ts : SuiteT)
def goneE (i : Nat) (D : Ends) : Ends := ⟨fun σ H => D.nx (σ.set i none) H, D.rt, fun σ H => D.bk (σ.set i none) H, fun σ H => D.ct (σ.set i none) H⟩
def wHs (K : Fg) (Wout : WX) (D : Ends) : List Hd → WX
  | [] => Wout
  | .p c ts :: r => fun cls d σ H => ∃ b, PySem.W.exmOne K cls c = some b ∧
      (b = true → ∀ a, H a = none → ts a cls d D σ H) ∧
      (b = false → wHs K Wout D r cls d σ H)
  | .a c i ts :: r => fun cls d σ H => ∃ b, PySem.W.exmOne K cls c = some b ∧
      (b = true → ∀ a, H a = none → ts a cls d (goneE i D) (σ.set i (some (.ref a))) H) ∧
      (b = false → wHs K Wout D r cls d σ H)
inductive HdA (X : Cx) : List ExceptHandler → List Hd → Prop
  | nil : HdA X [] []
  | p {x : Str} {c : Value} {ts : SuiteT} {b0 : Stmt} {su : List Stmt} {np ps : Pos} {hds : List ExceptHandler} {l : List Hd} (hc : Names X x c)
      (hsu : ∀ (a : Addr) (oe : Obj) (cls : Value) (d : Option Addr) (pn : List (Addr × Obj)), Zc cls d oe → (∃ vs, oe.data = .fields vs) →
        PSs (X.suite a ((a, oe) :: pn)) (b0 :: su) (ts a cls d)) (r : HdA X hds l) : HdA X (.ExceptHandler (some (.Name x np)) none (b0 :: su) ps :: hds) (.p c ts :: l)
  | a {x n : Str} {c : Value} {i : Nat} {ts : SuiteT} {b0 : Stmt} {su : List Stmt} {np ps : Pos} {hds : List ExceptHandler} {l : List Hd} (hN : X.N.Nodup) (hi : X.N[i]? = some n) (hln : X.env.kindOf n = some .local) (hc : Names X x c)
      (hsu : ∀ (a : Addr) (oe : Obj) (cls : Value) (d : Option Addr) (pn : List (Addr × Obj)), Zc cls d oe → (∃ vs, oe.data = .fields vs) →
        PSs (X.suite a ((a, oe) :: pn)) (b0 :: su) (ts a cls d)) (r : HdA X hds l) : HdA X (.ExceptHandler (some (.Name x np)) (some n) (b0 :: su) ps :: hds) (.a c i ts :: l)
section
variable {X : Cx} {body : List Stmt} {h0 : ExceptHandler} {hds : List ExceptHandler} {l : List Hd} {pos : Pos} {tb : WX → TS} {Wout : WX}
theorem names_test {a : Addr} {oe : Obj} {pins : List (Addr × Obj)} {σ : L2.St} {H : Hp} {s : Shared} {x : Str} {np : Pos} {c : Value} (hc : Names X x c) (S : Inv (X.suite a ((a, oe) :: (X.pn ++ pins))) [] σ H s) {Q E : Value → Shared → Prop} (q : Q c s) :
    wpAny (model X.prog X.w) (X.A.mark (some (.ref a))) (eval (.Name x np) X.env) Q E s := by
  obtain ⟨g1, g2, g3 | ⟨g4, g5, g6⟩⟩ := hc
  · exact ld_glob (X := X.suite a ((a, oe) :: (X.pn ++ pins))) S g1 g3 q g2
  · exact ld_blt (X := X.suite a ((a, oe) :: (X.pn ++ pins))) S g1 g4 g5 q g6 g2
theorem suite_end {a : Addr} {oe : Obj} {pins : List (Addr × Obj)} {D : Ends} {s6 : Shared} {f : Flow} (ok : X.Ok) (hsp : SP (X.suite a ((a, oe) :: (X.pn ++ pins))) [] D f s6) : SP X pins D f s6 := by
  cases f with
  | next => obtain ⟨σ6, H6, S6, q6⟩ := hsp; exact ⟨_, _, S6.unsuite ok, q6⟩
  | brk => obtain ⟨σ6, H6, S6, q6⟩ := hsp; exact ⟨_, _, S6.unsuite ok, q6⟩
  | cont => obtain ⟨σ6, H6, S6, q6⟩ := hsp; exact ⟨_, _, S6.unsuite ok, q6⟩
  | ret u => obtain ⟨v6, σ6, H6, S6, r6, q6⟩ := hsp; exact ⟨_, _, _, S6.unsuite ok, r6, q6⟩
theorem ps_try_hs (hs : X.stack = X.env :: X.outer) (hf : X.env.frame = some X.env.locals) (tk : Takes X Wout)
    (hb : ∀ (W : WX) (pn : List (Addr × Obj)) (xe : Value → Shared → Prop), Takes (X.tr pn xe) W →
      PassesOwn (model X.prog X.w) X.A X.env xe → PSs (X.tr pn xe) body (tb W))
    (hh : HdA X (h0 :: hds) l) : PS X (.Try body (h0 :: hds) [] [] pos) (fun D σ H => tb (wHs X.K Wout D l) D σ H) := by
  constructor
  intro pins s σ H D I h
  have ok := I.ok; have hfr : X.A.frames = some (X.env :: X.outer) := by rw [ok.frames, hs]
  refine wpAny_Try_except ?_
  let xe' : Value → Shared → Prop := fun e s₁ => wpAny (model X.prog X.w) X.A (noteFrame e X.env) (fun _ s₂ => wpAny (model X.prog X.w) X.A (setFlight e none)
    (fun _ s₃ => wpAny (model X.prog X.w) X.A (handleBy e X.env (h0 :: hds)) (SP X pins D) X.xe s₃) X.xe s₂) X.xe s₁
  have run := (hb (wHs X.K Wout D l) (X.pn ++ pins) xe' (fun u s' xx => ?_) PassesOwn.looking).run [] s σ H D (I.toTry _) h
  · refine wpAny_mono run (fun f s1 hsp => ?_) (fun e s1 he => he)
    cases f with
    | next => obtain ⟨σ', H', J', q⟩ := hsp; exact wpAny_execs_nil ⟨σ', H', J'.ofTry ok, q⟩
    | brk => obtain ⟨σ', H', J', q⟩ := hsp; exact ⟨σ', H', J'.ofTry ok, q⟩
    | cont => obtain ⟨σ', H', J', q⟩ := hsp; exact ⟨σ', H', J'.ofTry ok, q⟩
    | ret u => obtain ⟨v, σ', H', J', r, q⟩ := hsp; exact ⟨v, σ', H', J'.ofTry ok, r, q⟩
  · obtain ⟨a, B, sI, pins', σ', H', cls, d, rfl, J', nb, up, sky, na, os, ag, w⟩ := xx
    have J : Inv X pins σ' H' sI := J'.ofTry ok
    have sky' : Sky B (X.env :: X.outer) a (Zc cls d) X.env.locals s'.heap := hs ▸ sky
    show wpAny (model X.prog X.w) X.A (noteFrame (.ref a) X.env) _ _ _
    refine Sky.land Zc.steady hfr hf sky' fun h3 fl3 up3 => ?_
    have J3 : Inv X pins σ' H' { s' with heap := h3 } := J.landed nb fl3.1 (up.trans up3) os ag
    obtain ⟨oe3, vs3, he3, hz3, hd3⟩ := fl3.there
    have nfr : a ∉ frs (X.env :: X.outer) := fun hm => by obtain ⟨_, o', e', hnf⟩ := fl3.2.2.1.mem hm; rw [he3] at e'; cases e'; exact hnf _ hd3
    have nL : a ≠ X.env.locals := fun z => nfr (List.mem_filterMap.mpr ⟨X.env, .head _, by rw [hf, z]⟩)
    have nF : a ∉ X.fs := fun hm => by obtain ⟨e, he, q⟩ := List.mem_filterMap.mp hm; exact nfr (List.mem_filterMap.mpr ⟨e, .tail _ he, q⟩)
    have S3 := J3.suite he3 hd3 na nL nF
    have LT : PySem.W.Looks (model X.prog X.w) h3 (typeOf (.ref a)) cls := fun A Q E s k q => wpAny_typeOf_ref (k _ _ he3) (hz3.1.symm ▸ q)
    have go : ∀ {hds' : List ExceptHandler} {l' : List Hd}, HdA X hds' l' → wHs X.K Wout D l' cls d σ' H' →
        wpAny (model X.prog X.w) X.A (handleBy (.ref a) X.env hds') (SP X pins D) X.xe { s' with heap := h3 } := by
      intro hds' l' hk
      induction hk with
      | nil =>
        intro w
        obtain ⟨k1, k2, k3, oe, vs, T, oT, ts', he, hz, hd, h1, hr⟩ := id fl3
        refine wpAny_handleBy_nil ?_
        unfold PySem.passOn
        refine wpAny_bind (wpAny_field he hd h1 ?_)
        rw [if_neg (by simp : ¬ ((Value.ref T == Value.none) = true))]
        have fin : wpAny (model X.prog X.w) X.A (setFlight (.ref a) X.env.frame) (fun _ s4 => wpAny (model X.prog X.w) X.A (throw (.ref a) : Sem Flow)
            (SP X pins D) X.xe s4) X.xe { s' with heap := h3 } := by
          rw [hf]
          exact HandSPX.setFlight_upZ fl3 fun h4 hh4 up4 => wpAny_throw (tk _ _ ⟨a, B, sI, pins, σ', H', cls, d, rfl, J, nb, (up.trans up3).trans up4, .inr (.inr (hs ▸ hh4)), na, os, ag, w⟩)
        first | exact wpAny_bind (wpAny_pure (wpAny_bind fin)) | exact wpAny_bind fin
      | @p x c ts b0 su np ps hds2 l2 hc hsu r ih =>
        intro w
        obtain ⟨b, hb1, hyes, hno⟩ := w
        have LM := PySem.W.exm_one (M := model X.prog X.w) (J3.kIn) LT hb1
        refine wpAny_handleBy_cons (codeAny_handlers_test (names_test hc S3 (LM.here ?_))) (by intro q; cases q)
        cases b with
        | false => exact ih (hno rfl)
        | true =>
          refine codeAny_handlers_suite (HandSPX.lands_againZ fl3 fun h4 fl4 up4 => ?_)
          have J4 : Inv X pins σ' H' { s' with heap := h4 } := J.landed nb fl4.1 ((up.trans up3).trans up4) os ag
          obtain ⟨oe4, vs4, he4, hz4, hd4⟩ := fl4.there
          exact wpAny_mono ((hsu a oe4 cls d (X.pn ++ pins) hz4 ⟨_, hd4⟩).run [] _ _ H' _ (J4.suite he4 hd4 na nL nF) (hyes rfl a na)) (fun f s6 hsp => suite_end ok hsp) (fun _ _ z => False.elim z)
      | @a x n c i ts b0 su np ps hds2 l2 hN hi hln hc hsu r ih =>
        intro w
        obtain ⟨b, hb1, hyes, hno⟩ := w
        have LM := PySem.W.exm_one (M := model X.prog X.w) (J3.kIn) LT hb1
        refine wpAny_handleBy_cons (codeAny_handlers_test (names_test hc S3 (LM.here ?_))) (by intro q; cases q)
        cases b with
        | false => exact ih (hno rfl)
        | true =>
          refine codeAny_handlers_suite_as (HandSPX.lands_againZ fl3 fun h4 fl4 up4 => ?_)
          have J4 : Inv X pins σ' H' { s' with heap := h4 } := J.landed nb fl4.1 ((up.trans up3).trans up4) os ag
          obtain ⟨oe4, vs4, he4, hz4, hd4⟩ := fl4.there
          refine store_ok (X := X.suite a ((a, oe4) :: (X.pn ++ pins))) (v := .ref a) (J4.suite he4 hd4 na nL nF) hN hi (.inl hln) rfl (fun s5 S5 => ?_) (.inr hln)
          refine wpAny_mono ((hsu a oe4 cls d (X.pn ++ pins) hz4 ⟨_, hd4⟩).run [] s5 _ H' _ S5 (hyes rfl a na)) (fun f s6 hsp => ?_) (fun _ _ z => False.elim z)
          have end_ : ∀ {σ6 : L2.St} {H6 : Hp} {Q : Shared → Prop}, Inv (X.suite a ((a, oe4) :: (X.pn ++ pins))) [] σ6 H6 s6 → (∀ s7, Inv X pins (σ6.set i none) H6 s7 → Q s7) →
              wpAny (model X.prog X.w) X.A (do bindName X.env n .none; unbindBehindTheSuite X.env n ps) (fun _ s7 => Q s7) X.xe s6 := fun S6 hq => gone_ok (S6.unsuite ok) hN hi hln hq
          cases f with
          | next => obtain ⟨σ6, H6, S6, q6⟩ := hsp; exact end_ S6 fun s7 J7 => ⟨_, _, J7, q6⟩
          | brk => obtain ⟨σ6, H6, S6, q6⟩ := hsp; exact end_ S6 fun s7 J7 => ⟨_, _, J7, q6⟩
          | cont => obtain ⟨σ6, H6, S6, q6⟩ := hsp; exact end_ S6 fun s7 J7 => ⟨_, _, J7, q6⟩
          | ret u => obtain ⟨v6, σ6, H6, S6, r6, q6⟩ := hsp; exact end_ S6 fun s7 J7 => ⟨_, _, _, J7, r6, q6⟩
    exact go hh w
/-- nothing comes out -/
theorem tk0 : Takes X (fun _ _ _ _ => False) := fun _ _ ⟨_, _, _, _, _, _, _, _, _, _, _, _, _, _, _, _, w⟩ => w.elim
end
/-- the class and the field of what is raised -/
def xIs (k f : Str) : Xc → Option Int
  | .one k' f' n => if k' = k ∧ f' = f then some n else none
  | .nul _ => none
theorem xIs_eq {k f : Str} {x : Xc} {n : Int} (h : xIs k f x = some n) : x = .one k f n := by
  cases x with
  | one k' f' m =>
    rcases Decidable.em (k' = k ∧ f' = f) with hc | hc
    · rw [xIs, if_pos hc] at h
      rw [hc.1, hc.2, Option.some.inj h]
    · rw [xIs, if_neg hc] at h
      exact nomatch h
  | nul k' => cases h
section
variable {c : Ct} {te ta tb tc : TE} {tt tu : TT} {tl tr : TA} {σ : L2.St} {B H : Hp} {ks : List Addr} {os o1 o2 o3 o4 : List Cs} {S T U : Sv} {Ss Ts : List Sv} {i : Nat} {v : V} {r : R2} {α β γ : Type} {R : Rl α} {R' : Rl β} {xs ys : List α} {x y : α} {p q : Addr} {D : Ends}
/-- calls in a try -/
theorem ev_callSok {γ δ : Type} {ga : Str → Addr} {as : γ → List Sv} {m : γ → Rs δ} {Rr : Rl δ} {g : γ} {y : δ} {E : L2.St → XK} {tl : TA} (ha : EvA c tl σ B ks o1 o2 Ss) (hl : ALe c ks o2 ks Ss (as g)) (hm : m g = some (.ok y)) : Ev c (tCallS (PrX c.K ga as m Rr) E tl) σ B ks o1 o2 (Rr.g c.K c.Hs y) := fun B1 H1 e w Q k => by
  have z := ev_callXok (Rr := Rr) (ga := ga) (E := E σ) ha hl hm B1 H1 e w Q k
  unfold tCall at z
  simp only [List.append_nil] at z
  exact z
theorem ev_callSaok {γ δ : Type} {ga : Str → Addr} {as : γ → List Sv} {m : γ → Rs δ} {Rr : Rl δ} {g : γ} {y : δ} {E : L2.St → XK} {tl : TA} (ha : EvA c tl σ B ks o1 o2 Ss) (hl : ALe c ks o2 [] Ss (as g)) (hm : m g = some (.ok y)) : Ev c (tCallS (PrXa c.K ga as m Rr) E tl) σ B ks o1 o2 (Rr.s c.K y) := fun B1 H1 e w Q k => by
  have z := ev_callXaok (Rr := Rr) (ga := ga) (E := E σ) ha hl hm B1 H1 e w Q k
  unfold tCall at z
  simp only [List.append_nil] at z
  exact z
theorem callS {γ δ : Type} {ga : Str → Addr} {as : γ → List Sv} {m : γ → Rs δ} {Rr : Rl δ} {g : γ} {x : Xc} {E : L2.St → XK} {tl : TA} {Q : VK} (w : Wd c B H ks o1) (ha : EvA (c.at H) tl σ B ks o1 o2 Ss) (hl : ALe (c.at H) ks o2 ks Ss (as g)) (hm : m g = some (.error x))
    (er : ∀ cls d B2 H2, Same B B2 → Wd c B2 H2 ks o2 → XR ga x cls d B2 → E σ cls d H2) : tCallS (PrX c.K ga as m Rr) E tl σ H Q := by
  have z := callX (Rr := Rr) (E := E σ) (Q := Q) w ha hl hm er
  unfold tCall at z
  simp only [List.append_nil] at z
  exact z
theorem callSa {γ δ : Type} {ga : Str → Addr} {as : γ → List Sv} {m : γ → Rs δ} {Rr : Rl δ} {g : γ} {x : Xc} {E : L2.St → XK} {tl : TA} {Q : VK} (w : Wd c B H ks o1) (ha : EvA (c.at H) tl σ B ks o1 o2 Ss) (hl : ALe (c.at H) ks o2 [] Ss (as g)) (hm : m g = some (.error x))
    (er : ∀ cls d B2 H2, Same B B2 → Wd c B2 H2 ks o2 → XR ga x cls d B2 → E σ cls d H2) : tCallS (PrXa c.K ga as m Rr) E tl σ H Q := by
  have z := callXa (Rr := Rr) (E := E σ) (Q := Q) w ha hl hm er
  unfold tCall at z
  simp only [List.append_nil] at z
  exact z
/-- e.f -/
theorem ev_fld {C a dd : Addr} {f : Str} {n : Int} (he : Ev c te σ B ks o1 o2 (SA a)) (hx : B dd = some (.xd [(f, .int n)])) : Ev c (tXf a (.ref C) (some dd) C f te) σ B ks o1 o2 (rInt.s c.K n) := fun B1 H1 e w Q k => he B1 H1 e w _ fun v B2 H2 e2 w2 s => by
  refine ⟨s, rfl, dd, _, .int n, rfl, w2.ex _ _ (e2 _ _ (e _ _ hx)), ?_, k _ B2 H2 e2 w2 rfl⟩
  simp [List.lookup]
end
end Dl
namespace Dl
open PySem PySem.Spec L2 PyProof.Rows
def xM {δ : Type} (o : Option Int) (f : Int → Option δ) (k : Option δ) : Option δ := match o with
  | some n => f n
  | none => k
theorem xM_some {δ : Type} {o : Option Int} {f : Int → Option δ} {k z : Option δ} {n : Int} (h : o = some n) (hm : xM o f k = z) : f n = z := by subst h; exact hm
theorem xM_none {δ : Type} {o : Option Int} {f : Int → Option δ} {k z : Option δ} (h : o = none) (hm : xM o f k = z) : k = z := by subst h; exact hm
section
variable {K : Fg} {Wout : WX} {D : Ends} {l : List Hd} {c cls : Value} {d : Option Addr} {σ : L2.St} {H : Hp} {i : Nat} {ts : SuiteT}
theorem wH_no (h : PySem.W.exmOne K cls c = some false) (k : wHs K Wout D l cls d σ H) : wHs K Wout D (.p c ts :: l) cls d σ H := ⟨false, h, fun z => (nomatch z), fun _ => k⟩
theorem wH_noA (h : PySem.W.exmOne K cls c = some false) (k : wHs K Wout D l cls d σ H) : wHs K Wout D (.a c i ts :: l) cls d σ H := ⟨false, h, fun z => (nomatch z), fun _ => k⟩
theorem wH_yes (h : PySem.W.exmOne K cls c = some true) (k : ∀ a, H a = none → ts a cls d D σ H) : wHs K Wout D (.p c ts :: l) cls d σ H := ⟨true, h, fun _ => k, fun z => nomatch z⟩
theorem wH_yesA (h : PySem.W.exmOne K cls c = some true) (k : ∀ a, H a = none → ts a cls d (goneE i D) (σ.set i (some (.ref a))) H) : wHs K Wout D (.a c i ts :: l) cls d σ H := ⟨true, h, fun _ => k, fun z => nomatch z⟩
end
end Dl
namespace Dl
theorem non_opt {α : Type} {R : Rl α} {K : Fg} : Sle (rUnit.s K ()) ((rOpt R).s K none) := fun _ _ h => h
end Dl

/-! Ev11 -/
set_option Elab.async false
set_option linter.all false
set_option maxRecDepth 100000
set_option maxHeartbeats 2000000
namespace PySem.W
open PySem PySem.Spec PySem.Calls PyProof.Rows
section
variable {prog : Program} {w : World} {A : Around} {E : Value → Shared → Prop} {s : Shared} {K : Frag} {x D : Addr} {ox : Obj} {od : Option Obj}
/-- __class__ of a caught error, with its dict or without -/
theorem xd_class {Q : Option Value → Shared → Prop} (C : L2.ExcC K D) (X : K.In s.heap) (I : InstAt s.heap x ox D od) (h : Q (some (.ref D)) { s with toks := s.toks + 1 }) : wpAny (model prog w) A (getAttr? (.ref x) "__class__") Q E s := by
  have hf : findObj K D od "__class__" = some (.bind (.builtin "getset_descriptor.__get__") (.builtin "object.__class__")) := by
    obtain ⟨cd, hc, _⟩ := any_some C.hd
    unfold findObj
    rw [hc, Option.bind_some, C.ha, Option.bind_some]
    simp [C.hn, C.ht]
  obtain ⟨hp, g, d, t, os⟩ := s
  have L0 := I.type (M := model prog w); have L1 := looks_findIn (M := model prog w) X C.hg
  have L2 := looks_findIn (M := model prog w) X C.hk; have L3 := looks_find (M := model prog w) X I hf
  have sub : Looks (model prog w) hp (isInstance (.ref x) (.type "BaseException")) true := L0.andThen (looks_subIn X C.hs)
  have hx2 : (Value.builtin "BaseException.__getattribute__" == Value.builtin "object.__getattribute__") = false := by decide +kernel
  have hx0 : (false && onTheHeap (Value.builtin "BaseException.__getattribute__")) = false := rfl
  have hx1 : (onTheHeap (Value.ref D) && Value.builtin "BaseException.__getattribute__" == Value.builtin "object.__getattribute__") = false := by
    rw [hx2]; rfl
  unfold getAttr? getAttrBy? getAttrBy
  refine wpAny_bind (wpAny_mkText (wpAny_bind (wpAny_attempt (wpAny_holding (wpAny_bind (L0.at (wpAny_bind (L1.at ?_))))))))
  show wpAny _ _ (if (onTheHeap (Value.ref D) && Value.builtin "BaseException.__getattribute__" == Value.builtin "object.__getattribute__") = true
    then _ else _) _ _ _
  rw [hx1, if_neg Bool.false_ne_true]; unfold getAttrByItsOwn hookBefore
  refine wpAny_bind ?_
  have hT : onTheHeap (Value.ref D) = true := rfl
  rw [if_pos hT]
  refine L2.at (wpAny_bind (wpAny_attempt (wpAny_holding ?_)))
  unfold callGetattribute
  rw [hx0, if_neg Bool.false_ne_true]; unfold boundAndCalled
  rw [PySem.F.excAttr_ValueError.ga.bind (.ref x)]
  refine wpAny_bind (wpAny_pure ?_)
  show wpAny _ _ (call (.builtin "BaseException.__getattribute__")
    [.ref x, .str "__class__" t]) _ _ _
  refine wpAny_call (codeAny_call_builtin PySem.F.excAttr_ValueError.ga.plain PySem.F.entry_bexc_ga (@check_slot (model prog w) _ _ ⟨hp, g, d, t + 1, os⟩ "BaseException.__getattribute__" "BaseException" "__getattribute__" (.ref x) [.str "__class__" t] [] _ (by decide +kernel) (by decide +kernel) sub (PySem.F.args_bexc_ga (.ref x) (.str "__class__" t)) ?_))
  unfold Builtin.«object.__getattribute__»
  refine wpAny_bind (wpAny_of_eq (a := ((Value.ref x : Value), [Value.str "__class__" t])) (by first | rfl | (simp only [slotArgs]; rfl)) (wpAny_bind (wpAny_pure (wpAny_bind (L0.at (wpAny_bind (L3.at ?_)))))))
  show wpAny _ _ (holding [Value.builtin "object.__class__"] (call (.builtin "getset_descriptor.__get__")
    [.builtin "object.__class__", .ref x, .ref D]) >>= ret) _ _ _
  refine wpAny_bind (wpAny_holding (wpAny_call (class_get (s := ⟨hp, g, d, t + 1, os⟩) (ox := ox) (od := od) X I C.hm (wpAny_pure ?_))))
  show wpAny _ _ (handedOut (.ref D)) _ _ _
  rw [handedOut_of (v := .ref D) rfl]
  first | exact wpAny_pure (wpAny_pure h) | exact wpAny_pure h | exact wpAny_pure (wpAny_bind (wpAny_pure (wpAny_pure h)))
theorem xd_kit (C : L2.ExcC K D) : KitX K (.ref x) (.ref D) (fun h => ∃ ox od, InstAt h x ox D od) := by
  obtain ⟨cdD, hcD, _⟩ := any_some C.hd
  have hk : ∃ c' d' cd' sl', K.lookup D = some ⟨c', d', .cls cd', sl'⟩ := by
    unfold clsIn at hcD
    split at hcD
    · rename_i c' d' cd' sl' ho
      exact ⟨_, _, _, _, ho⟩
    · cases hcD
  obtain ⟨c', d', cd', sl', ho⟩ := hk
  refine ⟨fun _ _ _ ⟨_, _, I⟩ => I.type, fun _ _ X _ A' Q' E' s' k q => ?_, fun h tp dd its n sl X htp => ?_, fun X ⟨_, _, I⟩ k => xd_class C X I k⟩
  · unfold isType loadHead
    exact wpAny_bind (wpAny_loadPart (k _ _ (X _ _ ho)) (wpAny_pure q))
  · refine Bool.eq_false_iff.mpr fun q => ?_
    have e : D = tp := Value.ref.inj (beq_iff_eq.mp q)
    subst e
    have z := (X _ _ ho).symm.trans htp
    cases z
end
end PySem.W
namespace Dl
open PySem PySem.Spec L2 PyProof.Rows
/-- isinstance(e, c), isinstance(e, (c, ..)), e what the suite holds, of the class D -/
def rXE (K : Fg) (D a : Addr) (cls : Value) (d : Option Addr) : List V → Hp → VK → Prop := fun xs H Q => cls = .ref D ∧ (∃ dd fs, d = some dd ∧ H dd = some (.xd fs)) ∧ ∃ (cv : V) (u : Value) (b : Bool), xs = [.ref a, cv] ∧ ClsV cv u ∧ PySem.W.kitOne K (.ref D) u = some b ∧ Q (.bl b) H
def rXT (K : Fg) (D a : Addr) (cls : Value) (d : Option Addr) : List V → Hp → VK → Prop := fun xs H Q => cls = .ref D ∧ (∃ dd fs, d = some dd ∧ H dd = some (.xd fs)) ∧ ∃ (tp : Addr) (cs : List V) (us : List Value) (b : Bool), xs = [.ref a, .ref tp] ∧ H tp = some (.tup cs) ∧ Paired ClsV cs us ∧ PySem.W.kitAny K (.ref D) us = some b ∧ Q (.bl b) H
section
variable {X : Cx} {K : Fg} {a D : Addr} {oe : Obj} {cls : Value} {d : Option Addr} {pn : List (Addr × Obj)}
theorem inst_of {pins : List (Addr × Obj)} {σ : L2.St} {H : Hp} {s : Shared} (I : Inv (X.suite a ((a, oe) :: pn)) pins σ H s) (hz : Zc (.ref D) d oe) (hf : ∃ vs, oe.data = .fields vs) (hd : ∃ dd fs, d = some dd ∧ H dd = some (.xd fs)) : ∃ ox od, PySem.W.InstAt s.heap a ox D od := by
  obtain ⟨hget, _⟩ := I.pin (a, oe) (List.mem_append.mpr (.inl List.mem_cons_self))
  obtain ⟨vs, hv⟩ := hf
  obtain ⟨dd, fs, rfl, ea⟩ := hd
  have hx : ObjOk X.prog X.w H s.heap dd (.xd fs) := I.hok dd _ ea
  obtain ⟨mA, hns, _⟩ := hx
  obtain ⟨od, ho, _⟩ := lookIn_ns hns
  exact ⟨oe, some od, hget, hz.1, by unfold PySem.W.notCls; rw [hv] <;> rfl, by rw [hz.2]; exact ho⟩
theorem xE_one (hK : X.K = K) (C : ExcC K D) (hz : Zc cls d oe) (hf : ∃ vs, oe.data = .fields vs) : CallR (X.suite a ((a, oe) :: pn)) (.builtin "isinstance") (rXE K D a cls d) := by
  intro pins s σ H xs us Q I r h
  obtain ⟨rfl, hd, c, u, b, rfl, k, e, q⟩ := h
  obtain ⟨u1, u2, rfl, r1, r2⟩ := vals2 r
  cases k.eq r2
  cases (show u1 = Value.ref a from r1)
  subst hK
  exact PySem.W.kia_one (PySem.W.xd_kit C) I.kIn (inst_of I hz hf hd) e (fun z => nomatch z) fun tk => ⟨.bl b, H, I.tok tk, rfl, q⟩
theorem xE_tup (hK : X.K = K) (C : ExcC K D) (hz : Zc cls d oe) (hf : ∃ vs, oe.data = .fields vs) : CallR (X.suite a ((a, oe) :: pn)) (.builtin "isinstance") (rXT K D a cls d) := by
  intro pins s σ H xs us Q I r h
  obtain ⟨rfl, hd, tp, cs, ws, b, rfl, hT, k, e, q⟩ := h
  obtain ⟨u1, u2, rfl, r1, r2⟩ := vals2 r
  cases (show u2 = Value.ref tp from r2)
  cases (show u1 = Value.ref a from r1)
  subst hK
  have hI := inst_of I hz hf hd
  obtain ⟨_, its, rv, o, h1, h2, n, h3⟩ := (show ObjOk X.prog X.w H s.heap tp (.tup cs) from I.hok tp _ hT)
  cases ClsV.all k rv
  obtain ⟨oc, od, dt, sl⟩ := o
  simp only at h2 h3
  subst h2 h3
  exact PySem.W.kia_tup (PySem.W.xd_kit C) I.kIn hI h1 e (fun z => nomatch z) fun tk => ⟨.bl b, H, I.tok tk, rfl, q⟩
end
section
variable {c : Ct} {te ta tb tc : TE} {tt tu : TT} {tl tr : TA} {σ : L2.St} {B H : Hp} {ks : List Addr} {os o1 o2 o3 o4 : List Cs} {D a dd : Addr} {fs : List (Str × V)}
theorem ev_xE {C : Addr} {b : Bool} (he : Ev c te σ B ks o1 o2 (SA a)) (hx : B dd = some (.xd fs)) (hk : PySem.W.kitOne c.K (.ref D) (.ref C) = some b) : Ev c (tCB (rXE c.K D a (.ref D) (some dd)) (tCons te (tCons (tC (.ref C)) tNil))) σ B ks o1 o2 (rBool.s c.K b) := fun B1 H1 e w Q k =>
  he B1 H1 e w _ fun v B2 H2 e2 w2 s => ⟨rfl, ⟨dd, fs, rfl, w2.ex _ _ (e2 _ _ (e _ _ hx))⟩, .ref C, _, b, by rw [show v = .ref a from s], .own C, hk, k _ B2 H2 e2 w2 rfl⟩
theorem ev_xT {cs : List Addr} {b : Bool} (he : Ev c te σ B ks o1 o2 (SA a)) (hl : EvA c tl σ B ks o2 o2 (cs.map SA)) (hc : cs.length ≤ 1000) (hx : B dd = some (.xd fs)) (hk : PySem.W.kitAny c.K (.ref D) (cs.map Value.ref) = some b) : Ev c (tCB (rXT c.K D a (.ref D) (some dd)) (tCons te (tCons (tTup tl) tNil))) σ B ks o1 o2 (rBool.s c.K b) := fun B1 H1 e w Q k =>
  he B1 H1 e w _ fun v B2 H2 e2 w2 s => hl B2 H2 (e.trans e2) w2 _ fun vs B3 H3 e3 w3 ss => by
    have ev : vs = cs.map V.ref := by
      clear hk hc hl
      generalize hz : cs.map SA = Ss at ss
      induction ss generalizing cs with
      | nil => cases cs with
        | nil => rfl
        | cons x xs => cases hz
      | cons h t ih => cases cs with
        | nil => cases hz
        | cons x xs =>
          cases hz
          rw [List.map_cons, ih rfl]
          cases (show _ = V.ref x from h)
          rfl
    subst ev
    refine ⟨by rw [List.length_map, sizeLine_eq]; omega, fun p n => ?_⟩
    obtain ⟨up, w4⟩ := w3.new n (.tup (cs.map V.ref))
    refine ⟨rfl, ⟨dd, fs, rfl, w4.ex _ _ (up _ _ (e3 _ _ (e2 _ _ (e _ _ hx))))⟩, p, _, _, b, by rw [show v = .ref a from s], upd_same, ?_, hk, k _ _ _ ((e2.trans e3).trans up) w4 rfl⟩
    have : ∀ cs : List Addr, Paired ClsV (cs.map V.ref) (cs.map Value.ref) := fun cs => by
      induction cs with
      | nil => exact .nil
      | cons x xs ih => exact .cons (.own x) ih
    exact this cs
end
end Dl

/-! Ev12 -/
set_option Elab.async false
set_option linter.all false
set_option maxRecDepth 100000
set_option maxHeartbeats 2000000
namespace Dl
open PySem PySem.Spec L2 PyProof.Rows
/-- the script: a list that may stand in the written part -/
def rScr : Rl (List Int) where
  r K B v xs := ∃ p, v = .ref p ∧ SqL K B p (xs.map V.int)
  f _ _ _ _ _ := False
  mono e h := let ⟨p, a, b⟩ := h; ⟨p, a, Same.seq e b⟩
  fr h := h.elim
  ftr _ h := h
  fanti _ h := h
section
variable {c : Ct} {te ta tb tc : TE} {tt tu : TT} {tl tr : TA} {σ : L2.St} {B H : Hp} {ks : List Addr} {os o1 o2 o3 o4 : List Cs} {S T U : Sv} {Ss Ts : List Sv} {i : Nat} {v : V} {α β γ : Type} {R : Rl α} {R' : Rl β} {xs ys : List α} {x y : α} {p q : Addr} {D : Ends} {zs : List Int}
theorem ev_lenZ (ha : Ev c ta σ B ks o1 o2 (rScr.s c.K zs)) : Ev c (tCB (fun xs H Q => ∃ p ys, xs = [.ref p] ∧ (SqL c.K H p ys ∨ SqT c.K H p ys) ∧ Q (.int ys.length) H) (tCons ta tNil)) σ B ks o1 o2 (rInt.s c.K (zs.length : Int)) :=
  ev_cb1 ha fun x B2 H2 w ⟨p, a, b⟩ Q k => ⟨p, _, by rw [a], .inl (Same.seq w.ex b), by rw [List.length_map]; exact k _ B2 H2 (Same.refl _) w rfl⟩
theorem ev_ixZ {n z : Int} (ha : Ev c ta σ B ks o1 o2 (rScr.s c.K zs)) (hb : Ev c tb σ B ks o2 o3 (rInt.s c.K n)) (hx : atI zs n = some z) : Ev c (tOp (rIxL c.K) ta tb) σ B ks o1 o3 (rInt.s c.K z) :=
  ev_op0 ha hb fun a b B2 H2 w ⟨p, e, h⟩ t => by
    obtain ⟨u, hu, ru⟩ := patI (ints_v (K := c.K) (B := B2) zs) hx
    exact ⟨u, ru, fun Q k => ⟨p, _, n, u, e, t, Same.seq w.ex h, hu, k⟩⟩
/-- something new is taken out of the pure part, to be changed -/
theorem Wd.thaw {B1 : Hp} {H1 : Hp} (w1 : Wd c B1 H1 ks o1) (w3 : Wd c B H ks os) (e : Same B1 B) (hi : Imm R) (ai : AllI os) (h : (SN R c.K H1 xs).p v B) : ∃ p, v = .ref p ∧ c.H0 p = none ∧ Same B1 (hid p B) ∧ Wd c (hid p B) H (p :: ks) (CL R c.K xs :: os) := by
  obtain ⟨p, vs, a, n, b, d⟩ := h
  subst a
  have np : p ∉ ks := fun m => by rw [w3.off m] at b; cases b
  have im : ∀ a u, B a = some u → isM u = false → hid p B a = some u := fun a u z m => by
    rw [hid_ne (fun ea => by subst ea; rw [b] at z; cases z; cases m)]; exact z
  have up : Same B1 (hid p B) := fun a u h => by
    rw [hid_ne (ne_of_none (w1.ex a u h) n)]; exact e a u h
  refine ⟨p, rfl, w1.new0 n, up, ⟨fun a u h => ?_, List.nodup_cons.mpr ⟨np, w3.nd⟩, .cons ⟨.lst vs, w3.ex _ _ b, hid_at, rfl, vs, rfl, pmap d fun _ _ q => imm_tr hi im q⟩ (cel_hid im np ai w3.cell), fun a h => ?_, ?_, w3.hs⟩⟩
  · by_cases ea : a = p
    · rw [ea, hid_at] at h; cases h
    · rw [hid_ne ea] at h; exact w3.ex a u h
  · rcases List.mem_cons.mp h with rfl | h
    · exact .inr (w1.new0 n)
    · exact w3.own a h
  · exact ⟨fun a u h => up a u (w1.st.up a u h), fun a h => by rw [hid_ne (fun ea => h (by rw [ea]; exact w1.new0 n))]; exact w3.st.old a h, w3.st.keep, w3.st.tr⟩
/-- what is handed in to be changed is made for the call -/
theorem ev_call1f {γ δ ε : Type} {as : γ → Addr → List Sv} {Ci : γ → Cs} {m : γ → Option (δ × ε)} {Co : ε → Cs} {Rr : Rl δ} {g : γ} {z : δ × ε} {E : XK} (h1 : ∀ Hh, Ev (c.at Hh) te σ B ks o1 o2 (SN R c.K Hh xs)) (hi : Imm R) (ai : AllI o2) (hr : ∀ p, EvA c tr σ B (p :: ks) (CL R c.K xs :: o2) (CL R c.K xs :: o3) Ss)
    (ho : Ci g = CL R c.K xs) (hl : ∀ p, ALe c (p :: ks) (CL R c.K xs :: o3) ks (SA p :: Ss) (as g p)) (hm : m g = some z) (hC : CsI (Co z.2)) : Ev c (tCall (Pr1 c.K as Ci m Co Rr) [] E (tCons te tr)) σ B ks o1 o3 (Rr.g c.K c.Hs z.1) := fun B1 H1 e w Q k =>
  h1 H1 B1 H1 e w.at _ fun v B2 H2 e2 w2 s => by
    obtain ⟨p, ev, n0, up, w3⟩ := w.thaw (w.un w2) e2 hi ai s
    subst ev
    exact ev_call1 (E := E) (c := c) (σ := σ) (B := B) 0 rfl (ea_cons (te := tC (.ref p)) (S := SA p) (ev_c fun _ => rfl) (hr p)) (by rw [ho]; rfl) (hl p) hm hC (hid p B2) H2 (e.trans up) w3 Q fun v B3 H3 e3 w4 r => k v B3 H3 (up.trans e3) w4.drop r
theorem ev_call1fa {γ δ ε : Type} {as : γ → Addr → List Sv} {Ci : γ → Cs} {m : γ → Option (δ × ε)} {Co : ε → Cs} {Rr : Rl δ} {g : γ} {z : δ × ε} {E : XK} (h1 : ∀ Hh, Ev (c.at Hh) te σ B ks o1 o2 (SN R c.K Hh xs)) (hi : Imm R) (ai : AllI o2) (hr : ∀ p, EvA c tr σ B (p :: ks) (CL R c.K xs :: o2) (CL R c.K xs :: o3) Ss)
    (ho : Ci g = CL R c.K xs) (hl : ∀ p, ALe c (p :: ks) (CL R c.K xs :: o3) [] (SA p :: Ss) (as g p)) (hm : m g = some z) : Ev c (tCall (Pr1a c.K as Ci m Co Rr) [] E (tCons te tr)) σ B ks o1 o3 (Rr.s c.K z.1) := fun B1 H1 e w Q k =>
  h1 H1 B1 H1 e w.at _ fun v B2 H2 e2 w2 s => by
    obtain ⟨p, ev, n0, up, w3⟩ := w.thaw (w.un w2) e2 hi ai s
    subst ev
    exact ev_call1a (E := E) (c := c) (σ := σ) (B := B) 0 rfl (ea_cons (te := tC (.ref p)) (S := SA p) (ev_c fun _ => rfl) (hr p)) (by rw [ho]; rfl) (hl p) hm (hid p B2) H2 (e.trans up) w3 Q fun v B3 H3 e3 w4 r => k v B3 H3 (up.trans e3) w4.drop r
end
end Dl

/-! Ev13 -/
set_option Elab.async false
set_option linter.all false
set_option maxRecDepth 100000
set_option maxHeartbeats 2000000
namespace Dl
open PySem PySem.Spec L2 PyProof.Rows
def Flt (s : Cs) : Prop := ∀ (B B' : Hp) (o : HO), s.p B o → s.p B' o
def AllF : List Cs → Prop
  | [] => True
  | s :: r => Flt s ∧ AllF r
theorem flt_int {K : Fg} {xs : List Int} : Flt (CL rInt K xs) := fun B B' o ⟨vs, a, d⟩ => ⟨vs, a, pmap d fun _ _ h => h⟩
def spoilO (xss : List (List Int)) : Option Unit := if xss.all (fun xs => decide (xs.length + xss.length < 1000000)) then some () else none
section
variable {c : Ct} {te ta tb tc : TE} {σ : L2.St} {B H Ba Ha : Hp} {ks ks0 ks1 ka : List Addr} {os os0 os1 oa o1 o2 : List Cs} {S T U : Sv} {v : V} {α β : Type} {R : Rl α} {R' : Rl β} {x : α} {y : β} {p q : Addr} {D : Ends} {xss : List (List Int)}
theorem ev_T2bg {z : α × β} (ha : Ev c ta σ B ks o1 o2 ((rT2 R R').g c.K H z)) : Ev c (tOp (rIxT c.K) ta (tC (.int 1))) σ B ks o1 o2 (R'.g c.K H z.2) :=
  ev_op0 ha ev_int fun a b B2 H2 w ⟨p, v1, v2, e, h, d1, d2⟩ t => ⟨v2, d2, fun Q k => ⟨p, _, 1, v2, e, t, sqt_same w.ex h, rfl, k⟩⟩
theorem c_inrG {K : Fg} {z : α ⊕ β} (h : inrO z = some y) : Sle ((rEi R R').g K H z) (R'.g K H y) := by
  cases z with
  | inl a => cases h
  | inr b => cases h; exact fun _ _ h => h
theorem pflt : ∀ {ks : List Addr} {os : List Cs} {F G : Addr → Cs → Prop}, AllF os → Paired F ks os → (∀ a s, a ∈ ks → Flt s → F a s → G a s) → Paired G ks os
  | _, _, _, _, _, .nil, _ => .nil
  | _, _, _, _, ai, .cons a t, k => .cons (k _ _ List.mem_cons_self ai.1 a) (pflt ai.2 t fun a s m => k a s (List.mem_cons_of_mem _ m))
/-- for row in new rows: row.append(n) -/
theorem s_spoil {j : Nat} {n : Int} {x0 : Option V} (w : Wd c B H (ks0 ++ ks1) (os0 ++ os1)) (hlen : ks0.length = os0.length) (flt : AllF os0) (wa : Wd c Ba Ha ka oa) (eab : Same Ba B)
    (he : Ev (c.at H) te σ B (ks0 ++ ks1) (os0 ++ os1) (os0 ++ os1) (rLL.g c.K Ha xss)) (hN : spoilO xss = some ()) (hj : σ[j]? = some x0)
    (k : ∀ x B2 H2, Same Ba B2 → Wd c B2 H2 ks0 os0 → D.nx (σ.set j x) H2) : tFor (iList c.K te) (gName j) (tDrop (tBM c.K "list" rAppend (tVar j) (tCons (tC (.int n)) tNil))) D σ H :=
  he B H (Same.refl _) w.at _ fun v B2 H2 e2 w2' ⟨p, rs, ev, np, bp, nd, d⟩ => by
    subst ev
    have w2 := w.un w2'
    have hl : rs.length = xss.length := Paired.length d
    have hN2 : ∀ xs ∈ xss, xs.length + xss.length < 1000000 := by
      unfold spoilO at hN
      split at hN
      · rename_i hc
        exact fun xs hx => of_decide_eq_true (List.all_eq_true.mp hc xs hx)
      · cases hN
    have hjl : j < σ.length := (List.getElem?_eq_some_iff.mp hj).1
    have fr : ∀ r ∈ rs, Ha r = none ∧ ∃ ns, B2 r = some (.lst ns) := fun r hr => by
      obtain ⟨xs, z1, z2⟩ := pmem d r hr
      exact ⟨z1, _, z2⟩
    have pr : p ∉ rs := fun m => by
      obtain ⟨xs, z1, z2⟩ := pmem d p m
      rw [bp] at z2
      cases rs with
      | nil => cases m
      | cons r0 rs => cases xs <;> cases z2
    let Iv : Nat → Hp → Prop := fun i H' => (∀ r ∈ rs, ∃ ns : List Int, H' r = some (.lst (ns.map V.int)) ∧ ns.length + (rs.length - i) < 1000000) ∧ ∀ a, a ∉ rs → H' a = H2 a
    have i0 : Iv 0 H2 := ⟨fun r hr => by
      have : ∀ {rs : List Addr} {xss : List (List Int)}, Paired (RwF Ha B2) rs xss → r ∈ rs → ∃ xs ∈ xss, B2 r = some (.lst (xs.map V.int)) := by
        intro rs xss d
        induction d with
        | nil => exact fun h => nomatch h
        | cons a t ih =>
          intro h
          rcases List.mem_cons.mp h with rfl | h
          · exact ⟨_, List.mem_cons_self, a.2⟩
          · obtain ⟨xs, h1, h2⟩ := ih h
            exact ⟨xs, List.mem_cons_of_mem _ h1, h2⟩
      obtain ⟨xs, h1, h2⟩ := this d hr
      exact ⟨xs, w2.ex _ _ h2, by have := hN2 xs h1; omega⟩, fun a _ => rfl⟩
    have pl : ∀ {i : Nat} {H' : Hp}, Iv i H' → SqL c.K H' p (rs.map V.ref) := fun h => SqL.of (by rw [h.2 p pr]; exact w2.ex _ _ bp)
    refine ⟨p, rfl, ⟨_, pl i0⟩, fun i m σ' H' => m = rs.length - i ∧ i ≤ rs.length ∧ (∃ x, σ' = σ.set j x) ∧ Iv i H', ⟨_, rfl, Nat.zero_le _, ⟨x0, ?_⟩, i0⟩, ?_⟩
    · obtain ⟨_, he⟩ := List.getElem?_eq_some_iff.mp hj
      rw [← he, List.set_getElem_self]
    rintro i m σ' H' ⟨rfl, hil, ⟨x, rfl⟩, iv⟩
    by_cases hlt : i < rs.length
    · have hq : rs[i]? = some rs[i] := List.getElem?_eq_getElem hlt
      have hqv : (rs.map V.ref)[i]? = some (V.ref rs[i]) := by rw [List.getElem?_map, hq]; rfl
      refine .inr ⟨⟨_, _, pl iv, hqv⟩, fun σ2 H2' => (∃ x, σ2 = σ.set j x) ∧ Iv (i + 1) H2', fun σ2 H2' ⟨a, b⟩ => ⟨_, by omega, rfl, hlt, a, b⟩, fun v H'' hy => ?_⟩
      obtain ⟨rfl, hy⟩ := hy
      have hv := hy _ (pl iv)
      rw [hqv] at hv
      cases hv
      obtain ⟨ns, hr1, hr2⟩ := iv.1 rs[i] (List.getElem_mem hlt)
      refine ⟨.ref rs[i], by rw [List.set_set, List.getElem?_set_self hjl], ty_list hr1, rs[i], _, .int n, rfl, rfl, hr1, by rw [List.length_map, sizeLine_eq]; omega, ⟨_, List.set_set ..⟩, fun r hr => ?_, fun a ha => ?_⟩
      · by_cases er : r = rs[i]
        · subst er
          exact ⟨ns ++ [n], by rw [upd_same, List.map_append]; rfl, by rw [List.length_append, List.length_singleton]; omega⟩
        · obtain ⟨ms, h1, h2⟩ := iv.1 r hr
          exact ⟨ms, by rw [upd_ne er]; exact h1, by omega⟩
      · rw [upd_ne (fun e => ha (by rw [e]; exact List.getElem_mem hlt))]
        exact iv.2 a ha
    · refine .inl ⟨⟨_, pl iv, by rw [List.length_map]; omega⟩, ?_⟩
      have off : ∀ a, Ha a ≠ none → a ∉ rs := fun a h m => h (fr a m).1
      have e02 : Same Ba B2 := eab.trans e2
      have inH : ∀ a, H2 a ≠ none → H' a ≠ none := fun a h => by
        by_cases m : a ∈ rs
        · obtain ⟨ns, h1, _⟩ := iv.1 a m
          rw [h1]; exact fun z => nomatch z
        · rw [iv.2 a m]; exact h
      have sub : ∀ a ∈ ks0, a ∈ ks0 ++ ks1 := fun a h => List.mem_append_left _ h
      have offk : ∀ a ∈ ks0, a ∉ rs := fun a h m => by
        obtain ⟨_, ns, z⟩ := fr a m
        rw [w2.off (sub a h)] at z; cases z
      refine k x Ba H' (Same.refl _) ⟨fun a o h => ?_, (List.nodup_append.mp w2.nd).1, pflt flt (psplit hlen w2.cell).1 fun a s m fl ⟨o, q1, q2, q3, q4⟩ => ⟨o, by rw [iv.2 a (offk a m)]; exact q1, ?_, q3, fl _ _ _ q4⟩, fun a h => w2.own a (sub a h), ⟨wa.st.up, wa.st.old, fun a o h nk => ?_, fun a h => inH a (w2.st.tr a h)⟩, fun a h => inH a (w2.hs a h)⟩
      · have z := wa.ex a o h
        rw [iv.2 a (off a (by rw [z]; exact fun q => nomatch q))]
        exact w2.ex a o (e02 a o h)
      · cases z : Ba a with
        | none => rfl
        | some u => rw [e02 a u z] at q2; cases q2
      · rw [iv.2 a (off a (wa.st.tr a (by rw [h]; exact fun q => nomatch q)))]
        exact w2.st.keep a o h nk
end
end Dl

/-! Ev14 -/
set_option Elab.async false
set_option linter.all false
set_option maxRecDepth 100000
set_option maxHeartbeats 2000000
namespace Dl
open PySem PySem.Spec L2 PyProof.Rows StX
/-! ### sorted, of data of any kind -/
/-- sorted(xs): a new list, the items in their order as data -/
def rSortD (K : Fg) : List V → Hp → VK → Prop := fun vs H Q => ∃ (a : Addr) (us : List V) (ds : List PyData), vs = [V.ref a] ∧ SqL K H a us ∧ DpAll K H us ds ∧ PySem.W.AllAlike ds ∧ PySem.W.Sortable ds ∧ (∀ d ∈ ds, d.depth ≤ 60) ∧
  ∀ p, H p = none → Q (.ref p) (upd H p (.lst (((us.zip ds).mergeSort (PySem.W.dataLe false Prod.snd)).map Prod.fst)))
theorem dpall_len {K : Fg} {H : Hp} : ∀ {us : List V} {ds : List PyData}, DpAll K H us ds → us.length = ds.length
  | _, _, .nil => rfl
  | _, _, .cons _ t => by rw [List.length_cons, List.length_cons, dpall_len t]
theorem zip_snd {us : List V} {ds : List PyData} (h : us.length = ds.length) : (us.zip ds).map Prod.snd = ds := List.map_snd_zip (Nat.le_of_eq h.symm)
theorem each_rel {K : Fg} {H : Hp} : ∀ {us : List V} {its : List Value} {ds : List PyData}, Vals us its → DpAll K H us ds → PySem.W.EachIs (fun v (b : V × PyData) => RelV b.1 v) its (us.zip ds)
  | _, _, _, .nil, .nil => .nil
  | _, _, _, .cons r t, .cons d e => .cons r (each_rel t e)
theorem vals_of_each : ∀ {its : List Value} {bs : List (V × PyData)}, PySem.W.EachIs (fun v (b : V × PyData) => RelV b.1 v) its bs → Vals (bs.map Prod.fst) its
  | _, _, .nil => .nil
  | _, _, .cons r t => .cons r (vals_of_each t)
theorem each_reads {X : Cx} {pins : List (Addr × Obj)} {σ : L2.St} {H : Hp} {s : Shared} (I : Inv X pins σ H s) : ∀ {us : List V} {its : List Value} {ds : List PyData}, Vals us its → DpAll X.K H us ds → PySem.W.EachIs (fun v (b : V × PyData) => ∃ as, Reads s.heap v b.2 as) its (us.zip ds)
  | _, _, _, .nil, .nil => .nil
  | _, _, _, .cons r t, .cons d e => .cons (Dp.reads I _ _ _ d r) (each_reads I t e)
theorem cr_sortD {X : Cx} (hu : X.A.units + 64 < cLine) : CallR X (.builtin "sorted") (rSortD X.K) := by
  intro pins s σ H vs us Q I r h
  obtain ⟨a, vs0, ds, rfl, hs, hd, al, so, dep, q⟩ := h
  obtain ⟨its, rv, hl, hz⟩ := I.list hs
  obtain ⟨u, rfl, ru⟩ := vals1 r
  obtain rfl : u = Value.ref a := ru
  have hlen := dpall_len hd
  have zs := zip_snd hlen
  have zl : (vs0.zip ds).length = vs0.length := by rw [List.length_zip, ← hlen, Nat.min_self]
  refine PySem.W.sorted_data (enc := Prod.snd) (bs := vs0.zip ds) hl.isList (each_rel rv hd) (each_reads I rv hd) (by rw [zs]; exact al) (by rw [zs]; exact so) (by rw [zl]; exact hz) (fun b hb => ?_) fun out ol oe => ?_
  · have : b.2 ∈ ds := by rw [← zs]; exact List.mem_map.mpr ⟨b, hb, rfl⟩
    have := dep _ this
    show X.A.units + 2 + b.2.depth < cLine
    omega
  · have vo := vals_of_each oe
    refine ⟨.ref (s.heap.objs.size + 1), upd H (s.heap.objs.size + 1) (.lst (((vs0.zip ds).mergeSort (PySem.W.dataLe false Prod.snd)).map Prod.fst)), I.laid (t' := s.toks) (fun b o e => PyProof.Rows.sortedAll_old e) (Nat.le_succ _) ⟨?_, out, ?_⟩, rfl, q _ (I.hok.fresh (Nat.le_succ _))⟩
    · rw [List.length_map, List.length_mergeSort, zl]
      exact hz
    · obtain ⟨n, hn⟩ := PyProof.Rows.sortedAll_at s.heap its out.toArray
      exact ⟨n, vo, hn⟩
/-- data of a kind that can be sorted -/
structure So {α : Type} {R : Rl α} (D : Dq R) : Prop where
  al : ∀ x y, PySem.W.alike (D.d x) (D.d y) = true
  so : (∀ x, ∃ y r, D.d x = .tuple (y :: r)) ∨ ∀ x, D.d x ≠ .none ∧ ∀ xs, D.d x ≠ .tuple xs
theorem al_all {α : Type} {R : Rl α} {D : Dq R} (h : ∀ x y, PySem.W.alike (D.d x) (D.d y) = true) : ∀ xs ys : List α, PySem.W.alikeAll (xs.map D.d) (ys.map D.d) = true
  | [], [] => by simp [PySem.W.alikeAll]
  | [], _ :: _ => by simp [PySem.W.alikeAll]
  | _ :: _, [] => by simp [PySem.W.alikeAll]
  | x :: xs, y :: ys => by
    rw [List.map_cons, List.map_cons, PySem.W.alikeAll, h x y, al_all h xs ys]
    rfl
theorem soI : So dqInt := ⟨fun _ _ => rfl, .inr fun x => ⟨(fun h => nomatch h), (fun xs h => nomatch h)⟩⟩
theorem soLst {α : Type} {R : Rl α} {D : Dq R} (h : ∀ x y, PySem.W.alike (D.d x) (D.d y) = true) : So (dqLst D) := ⟨fun x y => by
    show PySem.W.alike (.list (x.map D.d)) (.list (y.map D.d)) = true
    rw [PySem.W.alike]
    exact al_all h x y, .inr fun x => ⟨(fun h => nomatch h), (fun xs h => nomatch h)⟩⟩
theorem alTpl {α : Type} {R : Rl α} {D : Dq R} (h : ∀ x y, PySem.W.alike (D.d x) (D.d y) = true) (x y : List α) : PySem.W.alike ((dqTpl D).d x) ((dqTpl D).d y) = true := by
  show PySem.W.alike (.tuple (x.map D.d)) (.tuple (y.map D.d)) = true
  rw [PySem.W.alike]
  exact al_all h x y
theorem soT2 {α β : Type} {R : Rl α} {R' : Rl β} {D : Dq R} {D' : Dq R'} (h : ∀ x y, PySem.W.alike (D.d x) (D.d y) = true) (h' : ∀ x y, PySem.W.alike (D'.d x) (D'.d y) = true) : So (dqT2 D D') := ⟨fun x y => by
    show PySem.W.alike (.tuple [D.d x.1, D'.d x.2]) (.tuple [D.d y.1, D'.d y.2]) = true
    simp [PySem.W.alike, PySem.W.alikeAll, h, h'], .inl fun x => ⟨_, _, rfl⟩⟩
theorem soT3 {α β γ : Type} {R : Rl α} {R' : Rl β} {R'' : Rl γ} {D : Dq R} {D' : Dq R'} {D'' : Dq R''} (h : ∀ x y, PySem.W.alike (D.d x) (D.d y) = true) (h' : ∀ x y, PySem.W.alike (D'.d x) (D'.d y) = true) (h'' : ∀ x y, PySem.W.alike (D''.d x) (D''.d y) = true) : So (dqT3 D D' D'') := ⟨fun x y => by
    show PySem.W.alike (.tuple [D.d x.1, D'.d x.2.1, D''.d x.2.2]) (.tuple [D.d y.1, D'.d y.2.1, D''.d y.2.2]) = true
    simp [PySem.W.alike, PySem.W.alikeAll, h, h', h''], .inl fun x => ⟨_, _, rfl⟩⟩
/-- the ascending arrangement of data -/
def sortD {α : Type} {R : Rl α} (D : Dq R) (xs : List α) : List α := xs.mergeSort (PySem.W.dataLe false D.d)
theorem p_mem {α : Type} {F : V → α → Prop} : ∀ {us : List V} {xs : List α}, Paired F us xs → ∀ p ∈ us.zip xs, F p.1 p.2
  | _, _, .nil, p, h => by simp at h
  | _, _, .cons a t, p, h => by
    rw [List.zip_cons_cons] at h
    rcases List.mem_cons.mp h with rfl | h
    · exact a
    · exact p_mem t p h
theorem p_of {α : Type} {F : V → α → Prop} : ∀ {L : List (V × α)}, (∀ p ∈ L, F p.1 p.2) → Paired F (L.map Prod.fst) (L.map Prod.snd)
  | [], _ => .nil
  | p :: L, h => .cons (h p List.mem_cons_self) (p_of fun q hq => h q (List.mem_cons_of_mem _ hq))
theorem p_sort {α : Type} {R : Rl α} {K : Fg} {B : Hp} (D : Dq R) {us : List V} {xs : List α} (h : Paired (R.r K B) us xs) : Paired (R.r K B) (((us.zip (xs.map D.d)).mergeSort (PySem.W.dataLe false Prod.snd)).map Prod.fst) (sortD D xs) := by
  have hlen : us.length = xs.length := plen h
  have e1 : us.zip (xs.map D.d) = (us.zip xs).map fun p => (p.1, D.d p.2) := by
    rw [List.zip_map_right]
    rfl
  have e2 : xs = (us.zip xs).map Prod.snd := (List.map_snd_zip (Nat.le_of_eq hlen.symm)).symm
  have m1 : ((us.zip xs).map fun p => (p.1, D.d p.2)).mergeSort (PySem.W.dataLe false Prod.snd) = ((us.zip xs).mergeSort (PySem.W.dataLe false fun p => D.d p.2)).map fun p => (p.1, D.d p.2) := (List.map_mergeSort (r := PySem.W.dataLe false fun (p : V × α) => D.d p.2) (s := PySem.W.dataLe false Prod.snd) (f := fun (p : V × α) => (p.1, D.d p.2)) fun _ _ _ _ => rfl).symm
  have m2 : xs.mergeSort (PySem.W.dataLe false D.d) = ((us.zip xs).mergeSort (PySem.W.dataLe false fun p => D.d p.2)).map Prod.snd := by
    conv => lhs; rw [e2]
    exact (List.map_mergeSort (r := PySem.W.dataLe false fun (p : V × α) => D.d p.2) (s := PySem.W.dataLe false D.d) (f := Prod.snd) fun _ _ _ _ => rfl).symm
  unfold sortD
  rw [e1, m1, m2, List.map_map]
  refine p_of fun p hp => p_mem h p ((List.mergeSort_perm _ _).mem_iff.mp hp)
section
variable {c : Ct} {te ta tb tc : TE} {tt tu : TT} {tl tr : TA} {σ : L2.St} {B H Ba Ha : Hp} {ks ks0 ks1 ka rs : List Addr} {os os0 os1 oa o1 o2 o3 : List Cs} {S T U : Sv} {Ss : List Sv} {v : V} {α β : Type} {R : Rl α} {R' : Rl β} {xs ys : List α} {x : α} {y : β} {p q : Addr} {D : Ends} {xss : List (List Int)} {tS : TS}
theorem ev_sortD (d : Dq R) (so : So d) (hk : d.k ≤ 60 := by decide) (ha : Ev c ta σ B ks o1 o2 S) (hs : SrcL c ks o2 S R xs) : Ev c (tCB (rSortD c.K) (tCons ta tNil)) σ B ks o1 o2 (SN R c.K c.Hs (sortD d xs)) :=
  ev_cb1 ha fun x B2 H2 w s Q q => by
    obtain ⟨p, vs, rfl, a, _, e⟩ := hs x B2 H2 w s
    refine ⟨p, vs, xs.map d.d, rfl, SqL.of a, dpall d (pmap e fun _ _ z => R.mono w.ex z), fun d1 h1 d2 h2 => ?_, ?_, fun d1 h1 => ?_, new_list w (p_sort d e) q⟩
    · obtain ⟨x, _, rfl⟩ := List.mem_map.mp h1
      obtain ⟨y, _, rfl⟩ := List.mem_map.mp h2
      exact so.al x y
    · rcases so.so with h | h
      · exact .inl fun d1 h1 => by
          obtain ⟨x, _, rfl⟩ := List.mem_map.mp h1
          exact h x
      · exact .inr fun d1 h1 => by
          obtain ⟨x, _, rfl⟩ := List.mem_map.mp h1
          exact h x
    · obtain ⟨x, _, rfl⟩ := List.mem_map.mp h1
      exact Nat.le_trans (d.dep x) hk
/-! ### a star in a display -/
theorem p_lst : ∀ {vs : List V} {xs : List α} {B : Hp}, Paired (R.r c.K B) vs xs → Paired (fun v S => Sv.p S v B) vs (xs.map fun x => R.s c.K x)
  | _, _, _, .nil => .nil
  | _, _, _, .cons a t => .cons a (p_lst t)
theorem ea_star (h : Ev c te σ B ks o1 o2 S) (hs : SrcL c ks o2 S R xs) (hr : EvA c tr σ B ks o2 o3 Ss) : EvA c (tStar c.K te tr) σ B ks o1 o3 ((xs.map fun x => R.s c.K x) ++ Ss) := fun B1 H1 e w Q q =>
  h B1 H1 e w _ fun v B2 H2 e2 w2 s => by
    obtain ⟨p, vs, rfl, a, _, d⟩ := hs v B2 H2 w2 s
    exact ⟨p, vs, rfl, .inr (SqL.of a), hr B2 H2 (e.trans e2) w2 _ fun us B3 H3 e3 w3 ss => q _ B3 H3 (e2.trans e3) w3 (papp2 (p_lst (pmap d fun _ _ z => R.mono e3 z)) ss)⟩
where papp2 {B : Hp} : ∀ {vs ws : List V} {Ss Ts : List Sv}, Paired (fun v S => Sv.p S v B) vs Ss → Paired (fun v S => Sv.p S v B) ws Ts → Paired (fun v S => Sv.p S v B) (vs ++ ws) (Ss ++ Ts)
  | _, _, _, _, .nil, h => h
  | _, _, _, _, .cons a t, h => .cons a (papp2 t h)
/-- [*xs, y, ..] -/
theorem ev_lstStar {tl : TA} {zs : List α} (ha : EvA c tl σ B ks o1 o2 ((xs.map fun x => R.s c.K x) ++ (ys.map fun x => R.s c.K x))) (hz : catO xs ys = some zs) : Ev c (tLst tl) σ B ks o1 o2 (SN R c.K c.Hs zs) := by
  unfold catO at hz
  split at hz
  · rename_i hl
    cases hz
    rw [← List.map_append] at ha
    refine fun B1 H1 e w Q q => ha B1 H1 e w _ fun vs B2 H2 e2 w2 ss => ?_
    have d : Paired (R.r c.K B2) vs (xs ++ ys) := by
      clear q ha hl
      generalize xs ++ ys = xs at ss ⊢
      generalize hz : (xs.map fun x => R.s c.K x) = Ss at ss
      induction ss generalizing xs with
      | nil => cases xs with
        | nil => exact .nil
        | cons x xs => cases hz
      | cons h t ih => cases xs with
        | nil => cases hz
        | cons x xs =>
          cases hz
          exact .cons h (ih _ rfl)
    exact ⟨by rw [plen d, List.length_append, sizeLine_eq]; omega, new_list w2 d fun v B3 H3 e3 w3 z => q v B3 H3 (e2.trans e3) w3 z⟩
  · cases hz
/-! ### len(set(xs)), no item twice -/
def lenSetO (xs : List Int) : Option Int := if xs.Nodup ∧ xs.length < 64 then some (xs.length : Int) else none
theorem ev_lenSet {xs : List Int} {z : Int} (ha : Ev c ta σ B ks o1 o2 S) (hs : SrcL c ks o2 S rInt xs) (h : lenSetO xs = some z) : Ev c (tLenSetI c.K ta) σ B ks o1 o2 (rInt.s c.K z) := fun B1 H1 e w Q q =>
  ha B1 H1 e w _ fun v B2 H2 e2 w2 s => by
    obtain ⟨p, vs, rfl, a, _, d⟩ := hs v B2 H2 w2 s
    have ei := pints d
    subst ei
    unfold lenSetO at h
    split at h
    · rename_i hc
      cases h
      exact ⟨p, xs, rfl, SqL.of a, hc.2, hc.1, q _ B2 H2 e2 w2 rfl⟩
    · cases h
/-! ### len of rows of one's own -/
theorem ev_lenTab {n : Nat} (i : Nat) (hk : ks[i]? = some q) (ha : Ev c ta σ B ks o1 o2 (SA q)) (ho : o2[i]? = some (CO rs)) (hn : rs.length = n) : Ev c (tCB (fun xs H Q => ∃ p ys, xs = [.ref p] ∧ (SqL c.K H p ys ∨ SqT c.K H p ys) ∧ Q (.int ys.length) H) (tCons ta tNil)) σ B ks o1 o2 (rInt.s c.K (n : Int)) :=
  ev_cb1 ha fun x B2 H2 w s Q k => by
    obtain ⟨o, h1, _, _, h2⟩ := w.cell.get hk ho
    cases (show x = .ref q from s)
    cases (show o = _ from h2)
    exact ⟨q, _, rfl, .inl (SqL.of h1), by rw [List.length_map, hn]; exact k _ B2 H2 (Same.refl _) w rfl⟩
/-! ### the outer list of new rows becomes a cell -/
theorem s_ownLL {j : Nat} (w : Wd c B H ks o1) (h : Ev (c.at H) te σ B ks o1 o2 (rLL.g c.K H xss)) (ai : AllI o2) (k : ∀ p B2 H2, Same B B2 → c.H0 p = none → Wd c B2 H2 (p :: ks) (CL (rLst rInt) c.K xss :: o2) → D.nx (σ.set j (some (.ref p))) H2) : tAsg te (gName j) D σ H :=
  h B H (Same.refl _) w.at _ fun v B2 H2 e w2 ⟨p, rs, a, n, b, _, d⟩ => by
    subst a
    have w3 := w.un w2
    have np : p ∉ ks := fun m => by rw [w3.off m] at b; cases b
    have im : ∀ a u, B2 a = some u → isM u = false → hid p B2 a = some u := fun a u z m => by
      rw [hid_ne (fun ea => by subst ea; rw [b] at z; cases z; cases m)]
      exact z
    have up : Same B (hid p B2) := fun a u h => by
      rw [hid_ne (ne_of_none (w.ex a u h) n)]
      exact e a u h
    have pr : ∀ {rs : List Addr} {xss : List (List Int)}, B2 p = some (.lst (rs.map V.ref)) → Paired (RwF H B2) rs xss → p ∉ rs := fun {rs xss} b d m => by
      obtain ⟨xs, z1, z2⟩ := pmem d p m
      rw [b] at z2
      cases rs with
      | nil => cases m
      | cons r0 rs => cases xs <;> cases z2
    have prs := pr b d
    have rr : ∀ {rs : List Addr} {xss : List (List Int)}, p ∉ rs → Paired (RwF H B2) rs xss → Paired ((rLst rInt).r c.K (hid p B2)) (rs.map V.ref) xss := by
      intro rs xss n d
      induction d with
      | nil => exact .nil
      | cons a t ih =>
        rw [List.mem_cons, not_or] at n
        exact .cons ⟨_, _, rfl, by rw [hid_ne (fun z => n.1 z.symm)]; exact a.2, ints_v _⟩ (ih n.2)
    refine k p (hid p B2) H2 up (w.new0 n) ⟨fun a u h => ?_, List.nodup_cons.mpr ⟨np, w3.nd⟩, .cons ⟨_, w3.ex _ _ b, hid_at, rfl, _, rfl, rr prs d⟩ (cel_hid im np ai w3.cell), fun a h => ?_, ?_, w3.hs⟩
    · by_cases ea : a = p
      · rw [ea, hid_at] at h; cases h
      · rw [hid_ne ea] at h; exact w3.ex a u h
    · rcases List.mem_cons.mp h with rfl | h
      · exact .inr (w.new0 n)
      · exact w3.own a h
    · exact ⟨fun a u h => up a u (w.st.up a u h), fun a h => by rw [hid_ne (fun ea => h (by rw [ea]; exact w.new0 n))]; exact w3.st.old a h, w3.st.keep, w3.st.tr⟩
/-! ### for x in range(2), written out -/
theorem s_forR2 {j : Nat} (k : tS { D with nx := fun σ1 H1 => tS { D with nx := D.nx, ct := D.nx, bk := D.nx } (σ1.set j (some (.int 1))) H1, ct := fun σ1 H1 => tS { D with nx := D.nx, ct := D.nx, bk := D.nx } (σ1.set j (some (.int 1))) H1, bk := D.nx } (σ.set j (some (.int 0))) H) : tFor (iRng1 (tCons (tC (.int 2)) tNil)) (gName j) tS D σ H := by
  refine ⟨2, rfl, by decide, by decide, fun i m σ' H' => (i = 0 ∧ m = 2 ∧ σ' = σ ∧ H' = H) ∨ (i = 1 ∧ m = 1 ∧ tS { D with nx := D.nx, ct := D.nx, bk := D.nx } (σ'.set j (some (.int 1))) H') ∨ (i = 2 ∧ m = 0 ∧ D.nx σ' H'), ⟨2, .inl ⟨rfl, rfl, rfl, rfl⟩⟩, ?_⟩
  rintro i m σ' H' (⟨rfl, rfl, rfl, rfl⟩ | ⟨rfl, rfl, h⟩ | ⟨rfl, rfl, h⟩)
  · refine .inr ⟨by show (0 : Nat) < 2; decide, fun σ1 H1 => tS { D with nx := D.nx, ct := D.nx, bk := D.nx } (σ1.set j (some (.int 1))) H1, fun σ1 H1 h => ⟨1, by decide, .inr (.inl ⟨rfl, rfl, h⟩)⟩, ?_⟩
    rintro x H2 ⟨rfl, rfl⟩
    exact k
  · refine .inr ⟨by show (1 : Nat) < 2; decide, fun σ1 H1 => D.nx σ1 H1, fun σ1 H1 h => ⟨0, by decide, .inr (.inr ⟨rfl, rfl, h⟩)⟩, ?_⟩
    rintro x H2 ⟨rfl, rfl⟩
    exact h
  · exact .inl ⟨by show (2 : Nat) ≤ 2; decide, h⟩
/-! ### new things are spoilt and forgotten -/
theorem Wd.reset {H' B2 H2 : Hp} (w2 : Wd c B2 H2 (ks0 ++ ks1) (os0 ++ os1)) (hlen : ks0.length = os0.length) (flt : AllF os0) (wa : Wd c Ba Ha ka oa) (e : Same Ba B2) (F : Addr → Prop)
    (f1 : ∀ a, Ba a ≠ none → ¬ F a) (f2 : ∀ a, c.H0 a ≠ none → ¬ F a) (f3 : ∀ a ∈ ks0, ¬ F a) (eq : ∀ a, ¬ F a → H' a = H2 a) (inn : ∀ a, F a → H' a ≠ none) : Wd c Ba H' ks0 os0 := by
  have inH : ∀ a, H2 a ≠ none → H' a ≠ none := fun a h => by
    by_cases m : F a
    · exact inn a m
    · rw [eq a m]; exact h
  have sub : ∀ a ∈ ks0, a ∈ ks0 ++ ks1 := fun a h => List.mem_append_left _ h
  refine ⟨fun a o h => ?_, (List.nodup_append.mp w2.nd).1, pflt flt (psplit hlen w2.cell).1 fun a s m fl ⟨o, q1, q2, q3, q4⟩ => ⟨o, by rw [eq a (f3 a m)]; exact q1, ?_, q3, fl _ _ _ q4⟩, fun a h => w2.own a (sub a h), ⟨wa.st.up, wa.st.old, fun a o h nk => ?_, fun a h => inH a (w2.st.tr a h)⟩, fun a h => inH a (w2.hs a h)⟩
  · rw [eq a (f1 a (by rw [h]; exact fun q => nomatch q))]
    exact w2.ex a o (e a o h)
  · cases z : Ba a with
    | none => rfl
    | some u => rw [e a u z] at q2; cases q2
  · rw [eq a (f2 a (by rw [h]; exact fun q => nomatch q))]
    exact w2.st.keep a o h nk
theorem Wd.b0 (wa : Wd c Ba Ha ka oa) {a : Addr} (n : Ha a = none) : Ba a = none := by
  cases z : Ba a with
  | none => rfl
  | some u => rw [wa.ex a u z] at n; cases n
/-- x.append(e), x a new list (or None) -/
theorem s_spoil1 {i : Nat} {n : Int} (w : Wd c B H (ks0 ++ ks1) (os0 ++ os1)) (hlen : ks0.length = os0.length) (flt : AllF os0) (wa : Wd c Ba Ha ka oa) (eab : Same Ba B) (hv : σ[i]? = some (some v)) (hg : ((rLst rInt).g c.K Ha ys').p v B) (hN : ys'.length < 1000000)
    (he : Ev (c.at H) te σ B (ks0 ++ ks1) (os0 ++ os1) (os0 ++ os1) (rInt.s c.K n)) (k : ∀ B2 H2, Same Ba B2 → Wd c B2 H2 ks0 os0 → D.nx σ H2) : tDrop (tBM c.K "list" rAppend (tVar i) (tCons te tNil)) D σ H := by
  obtain ⟨p, vs, rfl, np, bp, d⟩ := hg
  refine ⟨_, hv, ty_list (w.ex _ _ bp), he B H (Same.refl _) w.at _ fun y B2 H2 e2 w2' sy => ?_⟩
  have w2 := w.un w2'
  have hp := w2.ex _ _ (e2 _ _ bp)
  refine ⟨p, vs, y, rfl, rfl, hp, by rw [plen d, sizeLine_eq]; omega, k Ba _ (Same.refl _) (Wd.reset w2 hlen flt wa (eab.trans e2) (fun a => a = p) (fun a h e => ?_) (fun a h e => ?_) (fun a h e => ?_) (fun a h => upd_ne h) fun a h => ?_)⟩
  · subst e; exact h (wa.b0 np)
  · subst e; exact h (wa.new0 np)
  · subst e
    have := w2.off (List.mem_append_left _ h)
    rw [e2 _ _ bp] at this
    cases this
  · subst h; rw [upd_same]; exact fun z => nomatch z
end
end Dl

/-! Ev15 -/
set_option Elab.async false
set_option linter.all false
set_option maxRecDepth 100000
set_option maxHeartbeats 2000000
namespace Dl
open PySem PySem.Spec L2 PyProof.Rows StX
/-! ### a def that changes a list (at p) and the rows of a table (at q) -/
def Pr2 {γ δ ε : Type} (K : Fg) (as : γ → Addr → Addr → List Sv) (Ci : γ → Cs) (Ti : γ → List (List Int)) (m : γ → Option (δ × ε × List (List Int))) (Co : ε → Cs) (Rr : Rl δ) : Sp := fun vs H Q _ => ∃ g p q rs z B, Paired (fun v S => Sv.p S v B) vs (as g p q) ∧ Same B H ∧
  Cel B H (p :: q :: rs) (Ci g :: CO rs :: (Ti g).map (CL rInt K)) ∧ (p :: q :: rs).Nodup ∧ m g = some z ∧
  ∀ v B' H', Stp (p :: q :: rs) B H B' H' → Same B' H' → Cel B' H' (p :: q :: rs) (Co z.2.1 :: CO rs :: z.2.2.map (CL rInt K)) → Rr.f K H B' v z.1 → Q v H'
section
variable {c : Ct} {te ta tb tc : TE} {tt tu : TT} {tl tr : TA} {σ : L2.St} {B H Ba Ha : Hp} {ks ks0 ks1 ka rs : List Addr} {os os0 os1 oa o1 o2 o3 : List Cs} {S T U : Sv} {Ss : List Sv} {v : V} {α β : Type} {R : Rl α} {R' : Rl β} {xs ys : List α} {x : α} {y : β} {p q : Addr} {D : Ends} {xss : List (List Int)} {tS : TS}
theorem Wd.start2 {K : Fg} {ps : List Addr} {ss : List Cs} (e : Same B H) (ce : Cel B H ps ss) (nd : ps.Nodup) : Wd ⟨K, H, B, ps, H⟩ B H ps ss :=
  ⟨e, nd, ce, fun a h => .inl h, Stp.refl, fun _ h => h⟩
theorem cel_app : ∀ {ks ks' : List Addr} {os os' : List Cs}, Cel B H ks os → Cel B H ks' os' → Cel B H (ks ++ ks') (os ++ os')
  | _, _, _, _, .nil, h => h
  | _, _, _, _, .cons a t, h => .cons a (cel_app t h)
theorem cel_rows {K : Fg} {s : Cs} (h : Cel B H (p :: q :: rs) (s :: CO rs :: xss.map (CL rInt K))) : rs.length = xss.length := by
  cases h with
  | cons _ t => cases t with
    | cons _ t =>
      have := Paired.length t
      rw [List.length_map] at this
      exact this
theorem row_set {os : List Cs} {i : Nat} {s t : Cs} (h : os[i]? = some s) : (os.set i t)[i]? = some t := List.getElem?_set_self (List.getElem?_eq_some_iff.mp h).1
theorem rows_len (w : Wd c B H (ks ++ q :: rs) (os ++ CO rs :: xss.map (CL rInt c.K))) (hlen : ks.length = os.length) : rs.length = xss.length := by
  have z := (psplit hlen w.cell).2
  cases z with
  | cons _ t =>
    have := Paired.length t
    rw [List.length_map] at this
    exact this
theorem cel_flt {B' H' : Hp} : ∀ {ks : List Addr} {os : List Cs}, AllF os → Cel B H ks os → (∀ a ∈ ks, B' a = none) → Cel B' H ks os
  | _, _, _, .nil, _ => .nil
  | _, _, ai, .cons ⟨o, q1, q2, q3, q4⟩ t, k => .cons ⟨o, q1, k _ List.mem_cons_self, q3, ai.1 _ _ _ q4⟩ (cel_flt (H' := H') ai.2 t fun a h => k a (List.mem_cons_of_mem _ h))
theorem flt_CO {rs : List Addr} : Flt (CO rs) := fun _ _ _ h => h
theorem allF_rows {K : Fg} : ∀ {xss : List (List Int)}, AllF (xss.map (CL rInt K))
  | [] => trivial
  | _ :: xss => ⟨flt_int, allF_rows (xss := xss)⟩
theorem ev_call2 {γ δ ε : Type} {as : γ → Addr → Addr → List Sv} {Ci : γ → Cs} {Ti : γ → List (List Int)} {m : γ → Option (δ × ε × List (List Int))} {Co : ε → Cs} {Rr : Rl δ} {g : γ} {z : δ × ε × List (List Int)} {E : XK} {tl : TA} (i : Nat) (hk : ks[i]? = some p)
    (ha : EvA c tl σ B (ks ++ q :: rs) o1 (os ++ CO rs :: (Ti g).map (CL rInt c.K)) Ss) (ho : os[i]? = some (Ci g)) (hlen : ks.length = os.length)
    (hl : ALe c (ks ++ q :: rs) (os ++ CO rs :: (Ti g).map (CL rInt c.K)) (ks.eraseIdx i) Ss (as g p q)) (hm : m g = some z) (hC : CsI (Co z.2.1)) :
    Ev c (tCall (Pr2 c.K as Ci Ti m Co Rr) [] E tl) σ B (ks ++ q :: rs) o1 (os.set i (Co z.2.1) ++ CO rs :: z.2.2.map (CL rInt c.K)) (Rr.g c.K c.Hs z.1) := fun B1 H1 e w Q q0 =>
  ha B1 H1 e w _ fun vs B2 H2 e2 w2 ss => by
    show Pr2 c.K as Ci Ti m Co Rr (vs ++ []) H2 Q E
    rw [List.append_nil]
    have nds := List.nodup_append.mp w2.nd
    have sub : ∀ a ∈ ks.eraseIdx i, a ∈ ks ++ q :: rs := fun a h => List.mem_append_left _ (List.mem_of_mem_eraseIdx h)
    have pm := List.mem_of_getElem? hk
    have nq : p ∉ ks.eraseIdx i := fun h => by
      obtain ⟨hlt, hq⟩ := List.getElem?_eq_some_iff.mp hk
      obtain ⟨j, hj, hjq⟩ := List.mem_iff_getElem.mp h
      rw [List.getElem_eraseIdx] at hjq
      split at hjq
      · rename_i hji
        have := (List.getElem_inj nds.1).mp (hjq.trans hq.symm)
        omega
      · rename_i hji
        have := (List.getElem_inj nds.1).mp (hjq.trans hq.symm)
        omega
    have ng : ∀ a ∈ q :: rs, a ∉ ks.eraseIdx i := fun a h h2 => nds.2.2 a (List.mem_of_mem_eraseIdx h2) a h rfl
    obtain ⟨cel1, cel2⟩ := psplit hlen w2.cell
    obtain ⟨o, h1, b1, m1, c1⟩ := Cel.get cel1 hk ho
    have up0 := expo_same w2 sub
    have nd1 : (p :: q :: rs).Nodup := List.nodup_cons.mpr ⟨fun h => nds.2.2 p pm p h rfl, nds.2.1⟩
    have celg : Cel (expo (ks.eraseIdx i) H2 B2) H2 (q :: rs) (CO rs :: (Ti g).map (CL rInt c.K)) := cel_flt (H' := H2) ⟨flt_CO, allF_rows⟩ cel2 fun a h => by
      rw [expo_off (ng a h)]
      exact w2.off (List.mem_append_right _ h)
    refine ⟨g, p, q, rs, z, expo (ks.eraseIdx i) H2 B2, p_le (P := fun _ _ => True) (vs := []) ss (hl B2 H2 w2), expo_to w2 _, .cons ⟨o, h1, by rw [expo_off nq]; exact b1, m1, Cs.mono _ up0 c1⟩ celg, nd1, hm, fun v B' H' st ex ce r => ?_⟩
    have tr2 : ∀ a ∈ ks ++ q :: rs, H2 a ≠ none := fun a ha => by
      obtain ⟨_, o2', h2, _⟩ := w2.cell.off a ha
      rw [h2]; exact fun z => nomatch z
    have up : Same B2 (hids (ks ++ q :: rs) B') := fun a u h => by
      have n : a ∉ ks ++ q :: rs := fun mm => by rw [w2.off mm] at h; cases h
      rw [hids_off n]
      exact st.up a u (up0 a u h)
    have im : ∀ a u, B' a = some u → (isM u = false ∨ H2 a = none) → hids (ks ++ q :: rs) B' a = some u := fun a u hu mm => by
      rw [hids_off (fun ha => ?_)]
      · exact hu
      · have hh : B' a = expo (ks.eraseIdx i) H2 B2 a := st.old a (tr2 a ha)
        obtain ⟨b0, o2', h2, h3⟩ := w2.cell.off a ha
        by_cases he : a ∈ ks.eraseIdx i
        · rw [expo_in he, h2, hu] at hh
          cases hh
          rcases mm with mm | mm
          · rw [h3] at mm; cases mm
          · rw [h2] at mm; cases mm
        · rw [expo_off he, b0, hu] at hh; cases hh
    have old : ∀ a ∈ ks, a ≠ p → a ∉ p :: q :: rs := fun a h n m => by
      rcases List.mem_cons.mp m with z | z
      · exact n z
      · exact nds.2.2 a h a z rfl
    cases ce with
    | cons hp ceg =>
      obtain ⟨o', h', _, m', c'⟩ := hp
      refine q0 v _ H' (e2.trans up) ⟨fun a u h => ?_, w2.nd, cel_app (pset2 i nds.1 (pmap2 cel1 (G := fun a s => a ∈ ks ∧ ∃ o, H2 a = some o ∧ B2 a = none ∧ isM o = true ∧ s.p B2 o) fun a s hm hh => ⟨hm, hh⟩) hk (fun a u e ⟨hm, o2', q1, q2, q3, q4⟩ => ?_) ⟨o', h', hids_in (List.mem_append_left _ pm), m', hC _ _ _ (fun a u h m => im a u h (.inl m)) c'⟩) (cel_flt (H' := H') ⟨flt_CO, allF_rows⟩ ceg fun a h => hids_in (List.mem_append_right _ h)), w2.own, ?_, fun a h => st.tr a (w2.hs a h)⟩ (Rr.fanti w2.hs (Rr.ftr im r))
      · by_cases m : a ∈ ks ++ q :: rs
        · rw [hids_in m] at h; cases h
        · rw [hids_off m] at h; exact ex a u h
      · exact ⟨o2', st.keep a o2' q1 (old a hm e), hids_in (List.mem_append_left _ hm), q3, u.mono up q4⟩
      · refine ⟨w2.st.up.trans up, fun a h => ?_, fun a u h n => ?_, fun a h => st.tr a (w2.st.tr a h)⟩
        · have h2 := w2.st.tr a h
          by_cases ma : a ∈ ks ++ q :: rs
          · rw [hids_in ma, ← w2.st.old a h, w2.off ma]
          · rw [hids_off ma, st.old a h2, expo_off (fun z => ma (sub a z)), w2.st.old a h]
        · refine st.keep a u (w2.st.keep a u h n) fun e => ?_
          have hm : a ∈ ks ++ q :: rs := by
            rcases List.mem_cons.mp e with z | z
            · rw [z]; exact List.mem_append_left _ pm
            · exact List.mem_append_right _ z
          rcases w2.own a hm with z | z
          · exact n z
          · rw [z] at h; cases h
/-- for row in new rows: row.append(n), then the list itself: .append([]) -/
theorem s_spoilA {j i : Nat} {n : Int} {x0 : Option V} (w : Wd c B H (ks0 ++ ks1) (os0 ++ os1)) (hlen : ks0.length = os0.length) (flt : AllF os0) (wa : Wd c Ba Ha ka oa) (eab : Same Ba B)
    (hv : σ[i]? = some (some v)) (hij : i ≠ j) (hg : (rLL.g c.K Ha xss).p v B) (hN : spoilO xss = some ()) (hj : σ[j]? = some x0)
    (k : ∀ x B2 H2, Same Ba B2 → Wd c B2 H2 ks0 os0 → D.nx (σ.set j x) H2) : tFor (iList c.K (tVar i)) (gName j) (tDrop (tBM c.K "list" rAppend (tVar j) (tCons (tC (.int n)) tNil))) { D with nx := tDrop (tBM c.K "list" rAppend (tVar i) (tCons (tLst tNil) tNil)) D } σ H := by
  obtain ⟨p, rs, ev, np, bp, nd, d⟩ := hg
  subst ev
  have hl : rs.length = xss.length := Paired.length d
  have hN2 : ∀ xs ∈ xss, xs.length + xss.length < 1000000 := by
    unfold spoilO at hN
    split at hN
    · rename_i hc
      exact fun xs hx => of_decide_eq_true (List.all_eq_true.mp hc xs hx)
    · cases hN
  have hjl : j < σ.length := (List.getElem?_eq_some_iff.mp hj).1
  have fr : ∀ r ∈ rs, Ha r = none ∧ ∃ ns, B r = some (.lst ns) := fun r hr => by
    obtain ⟨xs, z1, z2⟩ := pmem d r hr
    exact ⟨z1, _, z2⟩
  have pr : p ∉ rs := fun m => by
    obtain ⟨xs, z1, z2⟩ := pmem d p m
    rw [bp] at z2
    cases rs with
    | nil => cases m
    | cons r0 rs => cases xs <;> cases z2
  have hp := w.ex _ _ bp
  let Iv : Nat → Hp → Prop := fun i H' => (∀ r ∈ rs, ∃ ns : List Int, H' r = some (.lst (ns.map V.int)) ∧ ns.length + (rs.length - i) < 1000000) ∧ ∀ a, a ∉ rs → H' a = H a
  have i0 : Iv 0 H := ⟨fun r hr => by
    have : ∀ {rs : List Addr} {xss : List (List Int)}, Paired (RwF Ha B) rs xss → r ∈ rs → ∃ xs ∈ xss, B r = some (.lst (xs.map V.int)) := by
      intro rs xss d
      induction d with
      | nil => exact fun h => nomatch h
      | cons a t ih =>
        intro h
        rcases List.mem_cons.mp h with rfl | h
        · exact ⟨_, List.mem_cons_self, a.2⟩
        · obtain ⟨xs, h1, h2⟩ := ih h
          exact ⟨xs, List.mem_cons_of_mem _ h1, h2⟩
    obtain ⟨xs, h1, h2⟩ := this d hr
    exact ⟨xs, w.ex _ _ h2, by have := hN2 xs h1; omega⟩, fun a _ => rfl⟩
  have pl : ∀ {i : Nat} {H' : Hp}, Iv i H' → SqL c.K H' p (rs.map V.ref) := fun h => SqL.of (by rw [h.2 p pr]; exact hp)
  refine ⟨_, hv, p, rfl, ⟨_, pl i0⟩, fun i m σ' H' => m = rs.length - i ∧ i ≤ rs.length ∧ (∃ x, σ' = σ.set j x) ∧ Iv i H', ⟨_, rfl, Nat.zero_le _, ⟨x0, ?_⟩, i0⟩, ?_⟩
  · obtain ⟨_, he⟩ := List.getElem?_eq_some_iff.mp hj
    rw [← he, List.set_getElem_self]
  rintro t m σ' H' ⟨rfl, hil, ⟨x, rfl⟩, iv⟩
  by_cases hlt : t < rs.length
  · have hq : rs[t]? = some rs[t] := List.getElem?_eq_getElem hlt
    have hqv : (rs.map V.ref)[t]? = some (V.ref rs[t]) := by rw [List.getElem?_map, hq]; rfl
    refine .inr ⟨⟨_, _, pl iv, hqv⟩, fun σ2 H2' => (∃ x, σ2 = σ.set j x) ∧ Iv (t + 1) H2', fun σ2 H2' ⟨a, b⟩ => ⟨_, by omega, rfl, hlt, a, b⟩, fun v H'' hy => ?_⟩
    obtain ⟨rfl, hy⟩ := hy
    have hv := hy _ (pl iv)
    rw [hqv] at hv
    cases hv
    obtain ⟨ns, hr1, hr2⟩ := iv.1 rs[t] (List.getElem_mem hlt)
    refine ⟨.ref rs[t], by rw [List.set_set, List.getElem?_set_self hjl], ty_list hr1, rs[t], _, .int n, rfl, rfl, hr1, by rw [List.length_map, sizeLine_eq]; omega, ⟨_, List.set_set ..⟩, fun r hr => ?_, fun a ha => ?_⟩
    · by_cases er : r = rs[t]
      · subst er
        exact ⟨ns ++ [n], by rw [upd_same, List.map_append]; rfl, by rw [List.length_append, List.length_singleton]; omega⟩
      · obtain ⟨ms, h1, h2⟩ := iv.1 r hr
        exact ⟨ms, by rw [upd_ne er]; exact h1, by omega⟩
    · rw [upd_ne (fun e => ha (by rw [e]; exact List.getElem_mem hlt))]
      exact iv.2 a ha
  · refine .inl ⟨⟨_, pl iv, by rw [List.length_map]; omega⟩, ?_⟩
    have hp' : H' p = some (.lst (rs.map V.ref)) := by rw [iv.2 p pr]; exact hp
    refine ⟨.ref p, by rw [List.getElem?_set_ne (fun z => hij z.symm)]; exact hv, ty_list hp', ⟨by show 0 ≤ sizeLine; exact Nat.zero_le _, fun l hln => ?_⟩⟩
    have lp : l ≠ p := fun e => by rw [e, hp'] at hln; cases hln
    have lr : l ∉ rs := fun m => by obtain ⟨ns, h1, _⟩ := iv.1 l m; rw [hln] at h1; cases h1
    have hlH : H l = none := by rw [← iv.2 l lr]; exact hln
    refine ⟨p, _, .ref l, rfl, rfl, by rw [upd_ne (fun e => lp e.symm)]; exact hp', by rw [List.length_map, hl, sizeLine_eq]; cases xss with
      | nil => show 0 < _; omega
      | cons xs xss => have := hN2 xs List.mem_cons_self; omega, k x Ba _ (Same.refl _) (Wd.reset w hlen flt wa eab (fun a => a = p ∨ a = l ∨ a ∈ rs) (fun a h e => ?_) (fun a h e => ?_) (fun a h e => ?_) (fun a h => ?_) fun a h => ?_)⟩
    · rcases e with rfl | rfl | m
      · exact h (wa.b0 np)
      · cases z : Ba a with
        | none => exact h z
        | some u => rw [w.ex a u (eab a u z)] at hlH; cases hlH
      · exact h (wa.b0 (fr a m).1)
    · rcases e with rfl | rfl | m
      · exact h (wa.new0 np)
      · exact w.st.tr a h hlH
      · exact h (wa.new0 (fr a m).1)
    · have ho := w.off (List.mem_append_left _ h)
      rcases e with rfl | rfl | m
      · rw [bp] at ho; cases ho
      · obtain ⟨_, o2, h2, _⟩ := w.cell.off a (List.mem_append_left _ h)
        rw [h2] at hlH; cases hlH
      · obtain ⟨_, ns, z⟩ := fr a m
        rw [z] at ho; cases ho
    · rw [not_or, not_or] at h
      rw [upd_ne h.1, upd_ne h.2.1]
      exact iv.2 a h.2.2
    · rcases h with rfl | rfl | m
      · rw [upd_same]; exact fun z => nomatch z
      · rw [upd_ne lp, upd_same]; exact fun z => nomatch z
      · obtain ⟨ns, h1, _⟩ := iv.1 a m
        have n1 : a ≠ p := fun e => pr (by rw [← e]; exact m)
        have n2 : a ≠ l := fun e => lr (by rw [← e]; exact m)
        rw [upd_ne n1, upd_ne n2, h1]
        exact fun z => nomatch z
def spoil1O (xs : List Int) : Option Unit := if xs.length < 1000000 then some () else none
theorem spoil1_eq {xs : List Int} {u : Unit} (h : spoil1O xs = some u) : xs.length < 1000000 := by
  unfold spoil1O at h
  split at h
  · rename_i hc; exact hc
  · cases h
theorem c_optG {R : Rl α} {K : Fg} {H : Hp} {z : Option α} {x : α} {B : Hp} (h : idO z = some x) (g : ((rOpt R).g K H z).p v B) : (R.g K H x).p v B := by
  cases (show z = some x from h)
  exact g
theorem ev_nonG {α : Type} {R : Rl α} : Ev c (tC .non) σ B ks os os ((rOpt R).g c.K c.Hs none) := ev_c fun _ => rfl
theorem ev_ifN {b : Bool} {zs : List α} (h : EvT c tt σ B ks o1 o2 b) (h1 : Ev c ta σ B ks o2 o3 (SN R c.K c.Hs xs)) (h2 : Ev c tb σ B ks o2 o3 (SN R c.K c.Hs ys)) : Ev c (tIf tt ta tb) σ B ks o1 o3 (SN R c.K c.Hs (cond b xs ys)) :=
  ev_if h (fun e => by subst e; exact h1) fun e => by subst e; exact h2
end
section
variable {X : Cx} {K : Fg}
theorem csrtD (hK : X.K = K) (hu : X.A.units + 64 < cLine) : CallR X (.builtin "sorted") (rSortD K) := by subst hK; exact cr_sortD hu
theorem peLenSet {a : Expr} {ta : TE} {p p2 q pos : Pos} (hK : X.K = K) (ha : PE X a ta) (hc : X.calm = true) (hg : Gl X "len") (hm : X.mg "len" = none) (hg2 : Gl X "set") (hm2 : X.mg "set" = none)
    (na : starEach [a] X.env = (false, eval a X.env) :: starEach [] X.env := by rfl) : PE X (.Call (.Name "len" p) [.Call (.Name "set" p2) [a] [] q] [] pos) (tLenSetI K ta) := by subst hK; exact pe_lenSetI hc hg hm hg2 hm2 ha na
theorem paStar {e : Expr} {es : List Expr} {te : TE} {t : TA} {p : Pos} (hK : X.K = K) (he : PE X e te) (hr : PA X es t) (hs : starEach (.Starred e p :: es) X.env = (true, eval e X.env) :: starEach es X.env := by rfl) : PA X (.Starred e p :: es) (tStar K te t) := by subst hK; exact pa_star he hr hs
end
end Dl

/-! Hk -/
set_option Elab.async false
set_option linter.all false
set_option maxRecDepth 100000
set_option maxHeartbeats 2000000
namespace Hk
open PySem PySem.Spec L2
abbrev Fg := PySem.W.Frag
/-! what the end leans on, of the error classes too -/
abbrev LowT : Type := Option (Arguments × FuncBody × Scope × Addr × Addr)
def iniA (K : Fg) (x : Str) : Addr := He.ma K (He.ga K x) "__init__"
def lowO (K : Fg) (x : Str) : LowT := match K.lookup (iniA K x) with
  | some ⟨_, _, .func fd, _⟩ => some (fd.params, fd.body, fd.scope, fd.globals, fd.builtins)
  | _ => none
def lowV (st : Stmt) : LowT := some (defArgs st, .stmts (defBody st), defScope st, mainGlobals, builtinsNs)
def clsB (K : Fg) (C : Addr) : Bool := match K.lookup C with
  | some ⟨.type "type", _, .cls cd, sl⟩ => (match cd.mro, sl.toList with
    | .ref C' :: bm, [_, _, _, _, some (.builtin n), _] => C' == C && (n == "ValueError.__new__" && (!cd.hasDel && (cd.hasDict && HandSPX.refsVE bm)))
    | _, _ => false)
  | _ => false
def iniB (K : Fg) (file : Str) (C f : Addr) : Bool := match K.lookup f with
  | some ⟨_, _, .func fd, _⟩ => PySem.W.codeIn K fd.code fd.qualname && ((match fd.closure with
      | [(n, cc)] => decide (n = ("__class__" : Str)) && (match K.lookup cc with
        | some ⟨_, _, .cell (some (.ref C')), _⟩ => decide (C' = C)
        | _ => false)
      | _ => false) && ((match fd.code with
      | .ref cda => (match K.lookup cda with
        | some ⟨_, _, .fields vs, _⟩ => (match (vs[2]? : Option Value) with
          | some (.str fl _) => (file == fl)
          | _ => false)
        | _ => false)
      | _ => false) && ((match fd.defaults with | .none => true | _ => false) && (match fd.kwdefaults with | .none => true | _ => false))))
  | _ => false
abbrev eqO := He.eqO
def lowB (file : Str) (x f1 : Str) (K : Fg) : Bool :=
  clsB K (He.ga K x) && (iniB K file (He.ga K x) (iniA K x) && (eqO (PySem.W.nsIn K mainGlobals "super") (some none) && (eqO (PySem.W.nsIn K cStatics "thirdparty.any") (some none) &&
  (decide (PySem.W.mroIn K (He.ga K x) (.ref (He.ga K x)) = some true) && (eqO (PySem.W.ks_superIn K (He.ga K x) (He.ga K x) "__init__") (some (some (.builtin "ValueError.__init__"))) &&
  (decide (PySem.W.subIn K (.ref (He.ga K x)) (.type "ValueError") = some true) && (PySem.W.excInitIn K (He.ga K x) HandSPX.veTail "ValueError.__new__" &&
  (eqO (PySem.W.findIn K (.ref (He.ga K x)) "__setattr__") (some (some (.builtin "object.__setattr__"))) && (eqO (PySem.W.findIn K (.ref (He.ga K x)) f1) (some none) &&
  (eqO (PySem.W.findIn K (.ref (He.ga K x)) "__init__") (some (some (.ref (iniA K x)))) && (decide (PySem.W.typeIn K (.ref (iniA K x)) = some (.type "function")) &&
  (decide (PySem.W.subIn K (.ref (He.ga K x)) (.type "BaseException") = some true) && (decide (PySem.W.typeIn K (.ref (He.ga K x)) = some (.type "type")) && PySem.W.keepIn K (.ref (He.ga K x)))))))))))))))
theorem clsB_ok {K : Fg} {C : Addr} (q : clsB K C = true) : ∃ nm qn N bs bm sn sub ab col dd k0 k1 k2 k3 k5, K.lookup C = some (excClassObj nm qn C N bs bm true sn sub ab col dd k0 k1 k2 k3 k5 "ValueError.__new__") ∧ HandSPX.refsVE bm = true := by
  unfold clsB at q
  split at q
  · rename_i dd cd sl ho
    split at q
    · rename_i C' bm k0 k1 k2 k3 n k5 hm hs
      simp only [Bool.and_eq_true, beq_iff_eq, Bool.not_eq_true'] at q
      obtain ⟨rfl, rfl, h1, h2, h3⟩ := q
      obtain ⟨nm, bs, mro, ns, qn, hd, sn, sub, ab, col, del⟩ := cd
      dsimp only at hm h1 h2
      subst hm h1 h2
      obtain ⟨l⟩ := sl
      simp only at hs
      subst hs
      exact ⟨_, _, _, _, bm, _, _, _, _, _, k0, k1, k2, k3, k5, ho, h3⟩
    · cases q
  · cases q
theorem low_of {P : Program} {K : Fg} {x f1 a1 msg file : Str} {st : Stmt} {j : Nat} {p0 p1 p2 p3 p4 p5 q0 q1 q2 q3 : Pos} (o : lowO K x = lowV st) (b : lowB file x f1 K = true) (hfile : (P.main.file : Str) = file) (top : (P.main.scope.names.lookup ("super" : Str)).isSome = false)
    (hb : defBody st = [.Expr (.Call (.Attribute (.Call (.Name "super" p0) [] [] p1) "__init__" p2) [.Constant (.str msg) j p3] [] p4) p5, .Assign [.Attribute (.Name "self" q0) f1 q1] (.Name a1 q2) q3]) (hp : (p2.endLine == p4.line) = true)
    (kind : (defScope st).kind = .function) (co : (defScope st).isCoroutine = false) (gen : (defScope st).isGenerator = false) (noc : ∀ x ∈ (defScope st).names, x.2 ≠ .cell) (ks : (defScope st).names.lookup ("super" : Str) = some .globalImplicit)
    (kc : (defScope st).names.lookup ("__class__" : Str) = some .free) (kself : (defScope st).names.lookup ("self" : Str) = some .local) (ka : (defScope st).names.lookup a1 = some .local) (ar : ∃ ar, ((defArgs st).posonlyargs ++ (defArgs st).args).head? = some ar ∧ ar.arg = "self")
    (hsa : a1 ≠ "self") (hd : (a1 == ("__debug__" : Str)) = false)
    (bind : ∀ fd : FuncData, fd.params = defArgs st → fd.scope = defScope st → fd.defaults = .none → fd.kwdefaults = .none → ∀ (s : Shared) (a b : Value), BindsTo s fd ⟨[a, b], []⟩ [("self", a), (a1, b)]) :
    ∃ fI fd a1', Xi.Low1 P K (He.ga K x) fI fd f1 a1' := by
  unfold lowB at b
  simp only [Bool.and_eq_true] at b
  obtain ⟨b1, b2, b3, b4, b5, b6, b7, b8, b9, b10, b11, b12, b13, b14, b15⟩ := b
  unfold lowO at o
  unfold iniB at b2
  cases q : K.lookup (iniA K x) with
  | none => rw [q] at o; cases o
  | some ob =>
    obtain ⟨oc, od, dt, osl⟩ := ob
    rw [q] at o b2
    cases dt with
    | func fd =>
      have o2 : (some (fd.params, fd.body, fd.scope, fd.globals, fd.builtins) : LowT) = some (defArgs st, .stmts (defBody st), defScope st, mainGlobals, builtinsNs) := o
      simp only [Option.some.injEq, Prod.mk.injEq] at o2
      obtain ⟨h1, h2, h3, h4, h5⟩ := o2
      simp only [Bool.and_eq_true] at b2
      obtain ⟨c1, c2, c3, c4, c5⟩ := b2
      have hclo : ∃ cc cl cld csl, fd.closure = [(("__class__" : Str), cc)] ∧ K.lookup cc = some ⟨cl, cld, .cell (some (.ref (He.ga K x))), csl⟩ := by
        split at c2
        · rename_i n cc hcl
          obtain ⟨e1, e2⟩ := Bool.and_eq_true_iff.mp c2
          have e1 := of_decide_eq_true e1
          subst e1
          split at e2
          · rename_i oc' od' C' sl' hcc
            have e2 := of_decide_eq_true e2
            subst e2
            exact ⟨cc, _, _, _, hcl, hcc⟩
          · cases e2
        · cases c2
      have hfl : ∃ cda ccl cdd vs ccs file tf, fd.code = .ref cda ∧ K.lookup cda = some ⟨ccl, cdd, .fields vs, ccs⟩ ∧ vs[2]? = some (.str file tf) ∧ ((P.main.file : Str) == file) = true := by
        split at c3
        · rename_i cda hc
          split at c3
          · rename_i a1' a2' vs a3' hk
            split at c3
            · rename_i fl tf hv
              exact ⟨cda, _, _, vs, _, fl, tf, hc, hk, hv, by rw [hfile]; exact c3⟩
            · cases c3
          · cases c3
        · cases c3
      have d1 : fd.defaults = .none := by
        split at c4
        · assumption
        · cases c4
      have d2 : fd.kwdefaults = .none := by
        split at c5
        · assumption
        · cases c5
      refine ⟨iniA K x, fd, a1, ⟨⟨clsB_ok b1, ⟨_, _, _, q⟩, c1, hclo, h4, h5, hfl, top, He.eqO_ok b3, He.eqO_ok b4, of_decide_eq_true b5, He.eqO_ok b6, of_decide_eq_true b7, b8, ?_, ?_, ?_, ?_, ?_, ?_, ?_, ?_⟩, ?_, ?_, hsa, hd, He.eqO_ok b9, He.eqO_ok b10, fun s a b => bind fd h1 h3 d1 d2 s a b, He.eqO_ok b11, of_decide_eq_true b12, of_decide_eq_true b13, of_decide_eq_true b14, b15⟩⟩
      · rw [h3]; exact kind
      · rw [h3]; exact co
      · rw [h3]; exact gen
      · rw [h3]; exact noc
      · rw [h3]; exact ks
      · rw [h3]; exact kc
      · rw [h3]; exact kself
      · rw [h1]; exact ar
      · exact ⟨msg, j, p0, p1, p2, p3, p4, p5, q0, q1, q2, q3, by rw [h2, hb], hp⟩
      · rw [h3]; exact ka
    | _ => cases o
/-! the Hook -/
abbrev AlX : Type := He.AlD × Bool × List LowT
def obsX (fa : List He.Fa) (fn : List He.DefD) (bs : List (Fg → Bool)) (ls : List Str) (K : Fg) : AlX := (He.obsD fa fn K, bs.all fun b => b K, ls.map (lowO K))
def valX (fn : List He.DefD) (vs : List LowT) : AlX := (He.valD fn, true, vs)
def SaysX (fa : List He.Fa) (fn : List He.DefD) (bs : List (Fg → Bool)) (ls : List Str) (vs : List LowT) (K : Fg) : Prop := obsX fa fn bs ls K = valX fn vs
def asX (n : Nat) (g : Addr → Option Obj) : List Addr := cStatics :: He.asD g n
def obsXG (n : Nat) (fa : List He.Fa) (fn : List He.DefD) (bs : List (Fg → Bool)) (ls : List Str) (g : Addr → Option Obj) : AlX := obsX fa fn bs ls (He.frG g (asX n g))
def hookX (n : Nat) (fa : List He.Fa) (fn : List He.DefD) (bs : List (Fg → Bool)) (ls : List Str) (vs : List LowT) : PySem.W.Hook where
  α := AlX
  obs := fun s => obsXG n fa fn bs ls s.heap.get?
  val := fun _ => valX fn vs
  says := fun _ h => ∃ K : Fg, K.In h ∧ SaysX fa fn bs ls vs K
  of := fun _ _ e => ⟨_, He.frG_in, e⟩
  keeps := fun _ _ _ ⟨K, hK, c⟩ k => ⟨K, PySem.W.Frag.In.keeps hK k, c⟩
theorem obsXG_eq {n : Nat} {fa : List He.Fa} {fn : List He.DefD} {bs : List (Fg → Bool)} {ls : List Str} {vs : List LowT} {g : Addr → Option Obj} {s : Shared} (h : ∀ a, g a = s.heap.get? a) : obsXG n fa fn bs ls g = (hookX n fa fn bs ls vs).obs s := by
  have e : g = s.heap.get? := funext h
  rw [e] <;> rfl
section
variable {fa : List He.Fa} {fn : List He.DefD} {bs : List (Fg → Bool)} {ls : List Str} {vs : List LowT} {K : Fg}
theorem SaysX.d (c : SaysX fa fn bs ls vs K) : He.SaysD fa fn K := congrArg (fun z : AlX => z.1) c
theorem SaysX.b (c : SaysX fa fn bs ls vs K) (i : Nat) {b : Fg → Bool} (h : bs[i]? = some b := by rfl) : b K = true := List.all_eq_true.mp (show (bs.all fun b => b K) = true from congrArg (fun z : AlX => z.2.1) c) b (List.mem_of_getElem? h)
theorem SaysX.l (c : SaysX fa fn bs ls vs K) (i : Nat) {x : Str} {v : LowT} (h : ls[i]? = some x := by rfl) (hv : vs[i]? = some v := by rfl) : lowO K x = v := by
  have e : ls.map (lowO K) = vs := congrArg (fun z : AlX => z.2.2) c
  have e2 : (ls.map (lowO K))[i]? = vs[i]? := by rw [e]
  rw [List.getElem?_map, h, hv] at e2
  exact Option.some.inj e2
end
end Hk

/-! A0 -/
set_option Elab.async false
set_option linter.all false
set_option maxRecDepth 100000
set_option maxHeartbeats 4000000
namespace G
open PySem PySem.Spec L2 Dl StX
abbrev tg_book : Tag := tg "book" (by decide +kernel)
abbrev tg_let : Tag := tg "let" (by decide +kernel)
abbrev tg_other : Tag := tg "other" (by decide +kernel)
abbrev tg_place : Tag := tg "place" (by decide +kernel)
def top (i : Nat) : Stmt := PySem.Challenge.pw_ringfolk_k00_arrows_and_first_moves.main.body.getD i (.Pass ⟨0, 0, 0, 0⟩)
abbrev s_check_book : Stmt := top 9
abbrev s_is_card : Stmt := top 10
abbrev s_check_places : Stmt := top 11
abbrev s_first_outside : Stmt := top 12
abbrev s_first_open : Stmt := top 13
abbrev s_places_ahead : Stmt := top 14
abbrev s_arrow_ends : Stmt := top 16
abbrev s_arrows : Stmt := top 17
abbrev s_lies_in : Stmt := top 19
abbrev s_check_news : Stmt := top 21
abbrev s_travel : Stmt := top 22
abbrev s__law_seed : Stmt := top 24
abbrev s__law_pick : Stmt := top 25
abbrev s__law_size : Stmt := top 26
abbrev s__law_shuffled : Stmt := top 27
abbrev s__law_some : Stmt := top 28
abbrev s__law_few : Stmt := top 29
abbrev s__law_stranger : Stmt := top 30
abbrev s__law_whole : Stmt := top 31
abbrev s__law_same : Stmt := top 32
abbrev s__law_same_rows : Stmt := top 33
abbrev s__law_copy : Stmt := top 34
abbrev s__law_after : Stmt := top 35
abbrev s__law_circle : Stmt := top 36
abbrev s__law_union : Stmt := top 37
abbrev s__law_normal : Stmt := top 38
abbrev s__law_gate : Stmt := top 39
abbrev s__law_wound : Stmt := top 40
abbrev s__law_parts : Stmt := top 41
abbrev s__law_grown : Stmt := top 42
abbrev s__law_any_nest : Stmt := top 43
abbrev s__law_card : Stmt := top 44
abbrev s__law_cards : Stmt := top 45
abbrev s__law_wild : Stmt := top 46
abbrev s__law_long : Stmt := top 47
abbrev s__law_bend : Stmt := top 48
abbrev s__law_book : Stmt := top 49
abbrev s__law_open : Stmt := top 50
abbrev s__law_bad_book : Stmt := top 51
abbrev s__law_bad_list : Stmt := top 52
abbrev s__law_news : Stmt := top 53
abbrev s__law_way : Stmt := top 54
abbrev s__law_arrow_row : Stmt := top 55
abbrev s__law_arrows_right : Stmt := top 56
abbrev s__law_ahead_right : Stmt := top 57
abbrev s__law_opens_right : Stmt := top 58
abbrev s__law_way_right : Stmt := top 59
abbrev s__law_moves_right : Stmt := top 60
abbrev s__law_refused : Stmt := top 61
abbrev s__law_refusals_right : Stmt := top 62
abbrev s_law : Stmt := top 63
structure Tx (P : Program) (K : Fg) (mg : Str → Option Value) : Prop where
  b_abs : mg "abs" = none
  b_all : mg "all" = none
  b_bool : mg "bool" = none
  b_enumerate : mg "enumerate" = none
  b_int : mg "int" = none
  b_isinstance : mg "isinstance" = none
  b_len : mg "len" = none
  b_list : mg "list" = none
  b_max : mg "max" = none
  b_min : mg "min" = none
  b_range : mg "range" = none
  b_set : mg "set" = none
  b_sorted : mg "sorted" = none
  b_tuple : mg "tuple" = none
  c_HOME : ∃ t, mg "HOME" = some (.int (-1) t)
  c_MOST : ∃ t, mg "MOST" = some (.int (16) t)
  f_check_book : ∃ fd, FnP K "check_book" s_check_book (He.ga K "check_book") fd
  m_check_book : mg "check_book" = some (.ref (He.ga K "check_book"))
  f_is_card : ∃ fd, FnP K "is_card" s_is_card (He.ga K "is_card") fd
  m_is_card : mg "is_card" = some (.ref (He.ga K "is_card"))
  f_check_places : ∃ fd, FnP K "check_places" s_check_places (He.ga K "check_places") fd
  m_check_places : mg "check_places" = some (.ref (He.ga K "check_places"))
  f_first_outside : ∃ fd, FnP K "first_outside" s_first_outside (He.ga K "first_outside") fd
  m_first_outside : mg "first_outside" = some (.ref (He.ga K "first_outside"))
  f_first_open : ∃ fd, FnP K "first_open" s_first_open (He.ga K "first_open") fd
  m_first_open : mg "first_open" = some (.ref (He.ga K "first_open"))
  f_places_ahead : ∃ fd, FnP K "places_ahead" s_places_ahead (He.ga K "places_ahead") fd
  m_places_ahead : mg "places_ahead" = some (.ref (He.ga K "places_ahead"))
  f_arrow_ends : ∃ fd, FnP K "arrow_ends" s_arrow_ends (He.ga K "arrow_ends") fd
  m_arrow_ends : mg "arrow_ends" = some (.ref (He.ga K "arrow_ends"))
  f_arrows : ∃ fd, FnP K "arrows" s_arrows (He.ga K "arrows") fd
  m_arrows : mg "arrows" = some (.ref (He.ga K "arrows"))
  f_lies_in : ∃ fd, FnP K "lies_in" s_lies_in (He.ga K "lies_in") fd
  m_lies_in : mg "lies_in" = some (.ref (He.ga K "lies_in"))
  f_check_news : ∃ fd, FnP K "check_news" s_check_news (He.ga K "check_news") fd
  m_check_news : mg "check_news" = some (.ref (He.ga K "check_news"))
  f_travel : ∃ fd, FnP K "travel" s_travel (He.ga K "travel") fd
  m_travel : mg "travel" = some (.ref (He.ga K "travel"))
  f__law_seed : ∃ fd, FnP K "_law_seed" s__law_seed (He.ga K "_law_seed") fd
  m__law_seed : mg "_law_seed" = some (.ref (He.ga K "_law_seed"))
  f__law_pick : ∃ fd, FnP K "_law_pick" s__law_pick (He.ga K "_law_pick") fd
  m__law_pick : mg "_law_pick" = some (.ref (He.ga K "_law_pick"))
  f__law_size : ∃ fd, FnP K "_law_size" s__law_size (He.ga K "_law_size") fd
  m__law_size : mg "_law_size" = some (.ref (He.ga K "_law_size"))
  f__law_shuffled : ∃ fd, FnP K "_law_shuffled" s__law_shuffled (He.ga K "_law_shuffled") fd
  m__law_shuffled : mg "_law_shuffled" = some (.ref (He.ga K "_law_shuffled"))
  f__law_some : ∃ fd, FnP K "_law_some" s__law_some (He.ga K "_law_some") fd
  m__law_some : mg "_law_some" = some (.ref (He.ga K "_law_some"))
  f__law_few : ∃ fd, FnP K "_law_few" s__law_few (He.ga K "_law_few") fd
  m__law_few : mg "_law_few" = some (.ref (He.ga K "_law_few"))
  f__law_stranger : ∃ fd, FnP K "_law_stranger" s__law_stranger (He.ga K "_law_stranger") fd
  m__law_stranger : mg "_law_stranger" = some (.ref (He.ga K "_law_stranger"))
  f__law_whole : ∃ fd, FnP K "_law_whole" s__law_whole (He.ga K "_law_whole") fd
  m__law_whole : mg "_law_whole" = some (.ref (He.ga K "_law_whole"))
  f__law_same : ∃ fd, FnP K "_law_same" s__law_same (He.ga K "_law_same") fd
  m__law_same : mg "_law_same" = some (.ref (He.ga K "_law_same"))
  f__law_same_rows : ∃ fd, FnP K "_law_same_rows" s__law_same_rows (He.ga K "_law_same_rows") fd
  m__law_same_rows : mg "_law_same_rows" = some (.ref (He.ga K "_law_same_rows"))
  f__law_copy : ∃ fd, FnP K "_law_copy" s__law_copy (He.ga K "_law_copy") fd
  m__law_copy : mg "_law_copy" = some (.ref (He.ga K "_law_copy"))
  f__law_after : ∃ fd, FnP K "_law_after" s__law_after (He.ga K "_law_after") fd
  m__law_after : mg "_law_after" = some (.ref (He.ga K "_law_after"))
  f__law_circle : ∃ fd, FnP K "_law_circle" s__law_circle (He.ga K "_law_circle") fd
  m__law_circle : mg "_law_circle" = some (.ref (He.ga K "_law_circle"))
  f__law_union : ∃ fd, FnP K "_law_union" s__law_union (He.ga K "_law_union") fd
  m__law_union : mg "_law_union" = some (.ref (He.ga K "_law_union"))
  f__law_normal : ∃ fd, FnP K "_law_normal" s__law_normal (He.ga K "_law_normal") fd
  m__law_normal : mg "_law_normal" = some (.ref (He.ga K "_law_normal"))
  f__law_gate : ∃ fd, FnP K "_law_gate" s__law_gate (He.ga K "_law_gate") fd
  m__law_gate : mg "_law_gate" = some (.ref (He.ga K "_law_gate"))
  f__law_wound : ∃ fd, FnP K "_law_wound" s__law_wound (He.ga K "_law_wound") fd
  m__law_wound : mg "_law_wound" = some (.ref (He.ga K "_law_wound"))
  f__law_parts : ∃ fd, FnP K "_law_parts" s__law_parts (He.ga K "_law_parts") fd
  m__law_parts : mg "_law_parts" = some (.ref (He.ga K "_law_parts"))
  f__law_grown : ∃ fd, FnP K "_law_grown" s__law_grown (He.ga K "_law_grown") fd
  m__law_grown : mg "_law_grown" = some (.ref (He.ga K "_law_grown"))
  f__law_any_nest : ∃ fd, FnP K "_law_any_nest" s__law_any_nest (He.ga K "_law_any_nest") fd
  m__law_any_nest : mg "_law_any_nest" = some (.ref (He.ga K "_law_any_nest"))
  f__law_card : ∃ fd, FnP K "_law_card" s__law_card (He.ga K "_law_card") fd
  m__law_card : mg "_law_card" = some (.ref (He.ga K "_law_card"))
  f__law_cards : ∃ fd, FnP K "_law_cards" s__law_cards (He.ga K "_law_cards") fd
  m__law_cards : mg "_law_cards" = some (.ref (He.ga K "_law_cards"))
  f__law_wild : ∃ fd, FnP K "_law_wild" s__law_wild (He.ga K "_law_wild") fd
  m__law_wild : mg "_law_wild" = some (.ref (He.ga K "_law_wild"))
  f__law_long : ∃ fd, FnP K "_law_long" s__law_long (He.ga K "_law_long") fd
  m__law_long : mg "_law_long" = some (.ref (He.ga K "_law_long"))
  f__law_bend : ∃ fd, FnP K "_law_bend" s__law_bend (He.ga K "_law_bend") fd
  m__law_bend : mg "_law_bend" = some (.ref (He.ga K "_law_bend"))
  f__law_book : ∃ fd, FnP K "_law_book" s__law_book (He.ga K "_law_book") fd
  m__law_book : mg "_law_book" = some (.ref (He.ga K "_law_book"))
  f__law_open : ∃ fd, FnP K "_law_open" s__law_open (He.ga K "_law_open") fd
  m__law_open : mg "_law_open" = some (.ref (He.ga K "_law_open"))
  f__law_bad_book : ∃ fd, FnP K "_law_bad_book" s__law_bad_book (He.ga K "_law_bad_book") fd
  m__law_bad_book : mg "_law_bad_book" = some (.ref (He.ga K "_law_bad_book"))
  f__law_bad_list : ∃ fd, FnP K "_law_bad_list" s__law_bad_list (He.ga K "_law_bad_list") fd
  m__law_bad_list : mg "_law_bad_list" = some (.ref (He.ga K "_law_bad_list"))
  f__law_news : ∃ fd, FnP K "_law_news" s__law_news (He.ga K "_law_news") fd
  m__law_news : mg "_law_news" = some (.ref (He.ga K "_law_news"))
  f__law_way : ∃ fd, FnP K "_law_way" s__law_way (He.ga K "_law_way") fd
  m__law_way : mg "_law_way" = some (.ref (He.ga K "_law_way"))
  f__law_arrow_row : ∃ fd, FnP K "_law_arrow_row" s__law_arrow_row (He.ga K "_law_arrow_row") fd
  m__law_arrow_row : mg "_law_arrow_row" = some (.ref (He.ga K "_law_arrow_row"))
  f__law_arrows_right : ∃ fd, FnP K "_law_arrows_right" s__law_arrows_right (He.ga K "_law_arrows_right") fd
  m__law_arrows_right : mg "_law_arrows_right" = some (.ref (He.ga K "_law_arrows_right"))
  f__law_ahead_right : ∃ fd, FnP K "_law_ahead_right" s__law_ahead_right (He.ga K "_law_ahead_right") fd
  m__law_ahead_right : mg "_law_ahead_right" = some (.ref (He.ga K "_law_ahead_right"))
  f__law_opens_right : ∃ fd, FnP K "_law_opens_right" s__law_opens_right (He.ga K "_law_opens_right") fd
  m__law_opens_right : mg "_law_opens_right" = some (.ref (He.ga K "_law_opens_right"))
  f__law_way_right : ∃ fd, FnP K "_law_way_right" s__law_way_right (He.ga K "_law_way_right") fd
  m__law_way_right : mg "_law_way_right" = some (.ref (He.ga K "_law_way_right"))
  f__law_moves_right : ∃ fd, FnP K "_law_moves_right" s__law_moves_right (He.ga K "_law_moves_right") fd
  m__law_moves_right : mg "_law_moves_right" = some (.ref (He.ga K "_law_moves_right"))
  f__law_refused : ∃ fd, FnP K "_law_refused" s__law_refused (He.ga K "_law_refused") fd
  m__law_refused : mg "_law_refused" = some (.ref (He.ga K "_law_refused"))
  f__law_refusals_right : ∃ fd, FnP K "_law_refusals_right" s__law_refusals_right (He.ga K "_law_refusals_right") fd
  m__law_refusals_right : mg "_law_refusals_right" = some (.ref (He.ga K "_law_refusals_right"))
  f_law : ∃ fd, FnP K "law" s_law (He.ga K "law") fd
  m_law : mg "law" = some (.ref (He.ga K "law"))
  g_TiedError : mg "TiedError" = some (.ref (He.ga K "TiedError"))
  g_BadBook : mg "BadBook" = some (.ref (He.ga K "BadBook"))
  xf_BadBook : XfC K (He.ga K "BadBook")
  no_BadBook : PySem.W.findIn K (.ref (He.ga K "BadBook")) "place" = some none
  x_BadBook_BadBook : PySem.W.exmOne K (.ref (He.ga K "BadBook")) (.ref (He.ga K "BadBook")) = some true
  x_BadBook_BadPlace : PySem.W.exmOne K (.ref (He.ga K "BadBook")) (.ref (He.ga K "BadPlace")) = some false
  x_BadBook_TiedError : PySem.W.exmOne K (.ref (He.ga K "BadBook")) (.ref (He.ga K "TiedError")) = some true
  BadBook : Kl P K mg "BadBook" "place"
  g_BadPlace : mg "BadPlace" = some (.ref (He.ga K "BadPlace"))
  xf_BadPlace : XfC K (He.ga K "BadPlace")
  no_BadPlace : PySem.W.findIn K (.ref (He.ga K "BadPlace")) "place" = some none
  x_BadPlace_BadBook : PySem.W.exmOne K (.ref (He.ga K "BadPlace")) (.ref (He.ga K "BadBook")) = some false
  x_BadPlace_BadPlace : PySem.W.exmOne K (.ref (He.ga K "BadPlace")) (.ref (He.ga K "BadPlace")) = some true
  x_BadPlace_TiedError : PySem.W.exmOne K (.ref (He.ga K "BadPlace")) (.ref (He.ga K "TiedError")) = some true
  BadPlace : Kl P K mg "BadPlace" "place"
  g_BadSize : mg "BadSize" = some (.ref (He.ga K "BadSize"))
  xf_BadSize : XfC K (He.ga K "BadSize")
  no_BadSize : PySem.W.findIn K (.ref (He.ga K "BadSize")) "size" = some none
  x_BadSize_BadBook : PySem.W.exmOne K (.ref (He.ga K "BadSize")) (.ref (He.ga K "BadBook")) = some false
  x_BadSize_BadPlace : PySem.W.exmOne K (.ref (He.ga K "BadSize")) (.ref (He.ga K "BadPlace")) = some false
  x_BadSize_TiedError : PySem.W.exmOne K (.ref (He.ga K "BadSize")) (.ref (He.ga K "TiedError")) = some true
  BadSize : Kl P K mg "BadSize" "size"
  g_BadNews : mg "BadNews" = some (.ref (He.ga K "BadNews"))
  xf_BadNews : XfC K (He.ga K "BadNews")
  no_BadNews : PySem.W.findIn K (.ref (He.ga K "BadNews")) "place" = some none
  x_BadNews_BadBook : PySem.W.exmOne K (.ref (He.ga K "BadNews")) (.ref (He.ga K "BadBook")) = some false
  x_BadNews_BadPlace : PySem.W.exmOne K (.ref (He.ga K "BadNews")) (.ref (He.ga K "BadPlace")) = some false
  x_BadNews_TiedError : PySem.W.exmOne K (.ref (He.ga K "BadNews")) (.ref (He.ga K "TiedError")) = some true
  BadNews : Kl P K mg "BadNews" "place"
def m_is_card : Int × Int × (List Int) → Option (Bool) := fun (size, place, card) =>
  (rngO (0 : Int) (card.length : Int)).bind fun xs1 =>
  finK (fun (_ : Unit) => (some true)) (fun (tt : Bool) => some tt) (forL (fun (index4 : Int) (_ : Unit) => ((atI card index4).bind fun t5 =>
  cond ((!(decide ((0 : Int) ≤ t5) && decide (t5 < size))) || ((decide (t5 = place)) || (decide (t5 ∈ (cut card none (some index4)))))) (some (.rt false)) (some (.nx ())) : Option (Ctl Unit Bool))) xs1 ())
def p_is_card (K : Fg) : Sp := Pr0 K (fun (g : Int × Int × (List Int)) => [rInt.s K g.1, rInt.s K g.2.1, (rLst rInt).s K g.2.2]) m_is_card rBool
abbrev N_is_card : List Str := ["size", "place", "card", "index", "entry"]
theorem sc_is_card : FnScope N_is_card ["size", "place", "card"] (defScope s_is_card) := ⟨rfl, rfl, rfl, by decide +kernel, rfl, by decide +kernel, by decide +kernel⟩
theorem ok_is_card {P : Program} {w : World} {K : Fg} {mg : Str → Option Value} {base : Heap} (T : Tx P K mg) {fd : FuncData} (F : FnP K "is_card" s_is_card (He.ga K "is_card") fd) : FnOk P w K mg base (L2.CX P w) 1 (He.ga K "is_card") fd ["size", "place", "card"] (p_is_card K) := by
  have sc := sc_is_card
  refine F.ok sc (fun vs H Q E h => ?_) (fun cdv A outer s H vs Q E hr h => ?_)
  · obtain ⟨g, z, B, ss, _⟩ := h
    exact (Paired.length ss).trans rfl
  · obtain ⟨⟨size, place, card⟩, z, B, ss, ex, hm, k⟩ := h
    obtain ⟨v0, v1, v2, rfl, z0, z1, z2⟩ := pn3 ss
    refine ⟨_, (pss_cons (ps_for (passes_of rfl) rfl (pi_range1 (by rfl) T.b_range (pa_cons (pe_callB (clen (K := K) rfl) (by rfl) T.b_len (by decide +kernel) (pa_cons (pv 2) pa_nil)) pa_nil)) (pg_name (i := 3) sc.nd rfl (Or.inl rfl)) (pss_cons (ps_set (i := 4) sc.nd rfl (Or.inl rfl) (pe_ix (ixl (K := K) rfl) (pv 2) (pv 3) (fun _ _ => rfl))) (pss_one (ps_if (PW.pt (pw_or (pt_not (pt_chain op_le op_lt pe_int (pv 4) (pv 0))) (pw_or (pt_cmpR op_eq (pv 4) (pv 1) (nomark _)) (pw_or1 (pt_cmpR (opin (K := K) rfl) (pv 4) (pe_slice (sll (K := K) rfl) (pv 2) po_none (po_some (pv 3))) (by rfl)))))) (pss_one (ps_ret pe_bl)) pss_nil)))) (pss_one (ps_ret pe_bl))), ?_⟩
    have w := Wd.start (K := K) ex
    unfold m_is_card at hm
    obtain ⟨xs1, e2, hm⟩ := ob hm
    refine s_for (R := rInt) (oo := (fun (rr : Unit) => [])) (ρ0 := ()) (fun (index4 : Int) (_ : Unit) => ((atI card index4).bind fun t5 =>
cond ((!(decide ((0 : Int) ≤ t5) && decide (t5 < size))) || ((decide (t5 = place)) || (decide (t5 ∈ (cut card none (some index4)))))) (some (.rt false)) (some (.nx ())) : Option (Ctl Unit Bool))) (fun (_ : Unit) σ' B' => ∃ o_3 : Option V, ∃ o_4 : Option V, σ' = [some v0, some v1, some v2, o_3, o_4]) (fun zz => finK _ _ zz = some _) w (ei_r1 (ev_len (ev_var (S := (rLst rInt).s K card) rfl z2) src_p) e2) (fun rr σ' B1 B2 e ⟨o_3, o_4, hσ⟩ => ⟨o_3, o_4, hσ⟩) (fun B2 e => ⟨_, _, rfl⟩) hm ?_ ?_
    · rintro index4 rst rr vx3 σ' Bt3 Ht3 xt3 wt3 ⟨o_3t3, o_4t3, rfl⟩ hx3 hf N hN dn
      dsimp only [gName]
      obtain ⟨ctl, hfx, hbk3, hrt3⟩ := forL_step hf
      have hm := hfx
      obtain ⟨t5, e6, hm⟩ := ob hm
      refine s_asg wt3 (ev_ix (ev_var (S := (rLst rInt).s K card) rfl (Sv.mono _ xt3 z2)) (ev_var (S := rInt.s K index4) rfl hx3) src_p e6) (fun w_v8 B7 H7 x7 w7 h9 => ?_)
      try dsimp only
      refine s_if w7 (et_or (et_not (et_test (ev_ch_le_lt ev_int (ev_var (S := rInt.s K t5) rfl h9) (ev_var (S := rInt.s K size) rfl (Sv.mono _ x7 (Sv.mono _ xt3 z0)))))) (fun _ => (et_or (et_test (ev_eqI (ev_var (S := rInt.s K t5) rfl h9) (ev_var (S := rInt.s K place) rfl (Sv.mono _ x7 (Sv.mono _ xt3 z1))))) (fun _ => (et_test (ev_in (ev_var (S := rInt.s K t5) rfl h9) (ev_cut (ev_var (S := (rLst rInt).s K card) rfl (Sv.mono _ x7 (Sv.mono _ xt3 z2))) eo_none (eo_some (ev_var (S := rInt.s K index4) rfl (Sv.mono _ x7 hx3))) src_p) src_n))) (fun _ => rfl))) (fun _ => rfl)) (fun hb B10 H10 x10 w10 => ?_) (fun hb B10 H10 x10 w10 => ?_)
      · have hm := it hb hm
        refine s_ret w10 ev_bl (fun vv B11 H11 x11 w11 hv => ?_)
        cases hm
        replace hm := hrt3 _ rfl
        cases hm
        exact k _ _ _ w11.st w11.ex ((imm_flat _) _ _ _ _ _ hv)
      · have hm := ie hb hm
        have hq_ := Option.some.inj hm
        subst hq_
        exact hN () _ _ _ hfx (x7.trans x10) w10 ⟨_, _, rfl⟩
    · rintro rr σ' B12 H12 x12 w12 ⟨o_3k13, o_4k13, rfl⟩ hm
      try dsimp only
      replace hm := finK_nx hm
      refine s_ret w12 ev_bl (fun vv B14 H14 x14 w14 hv => ?_)
      cases hm
      exact k _ _ _ w14.st w14.ex ((imm_flat _) _ _ _ _ _ hv)
def m_check_book : (List (List Int)) → Option (Except Xc Unit) := fun book =>
  cond (!(decide ((1 : Int) ≤ (book.length : Int)) && decide ((book.length : Int) ≤ (16 : Int)))) (some (.error (.one "BadBook" "place" (-(1 : Int))))) ((rngO (0 : Int) (book.length : Int)).bind fun xs3 =>
  finK (fun (_ : Unit) => (some (.ok ()))) (fun (tt : Except Xc Unit) => some tt) (forL (fun (place6 : Int) (_ : Unit) => ((atI book place6).bind fun t7 =>
  (m_is_card ((book.length : Int), place6, t7)).bind fun r9 =>
  cond (!r9) (some (.rt (.error (.one "BadBook" "place" place6)))) (some (.nx ())) : Option (Ctl Unit (Except Xc Unit)))) xs3 ()))
def p_check_book (K : Fg) : Sp := PrX K (He.ga K) (fun (g : (List (List Int))) => [(rLst (rLst rInt)).s K g]) m_check_book rUnit
abbrev N_check_book : List Str := ["book", "place"]
theorem sc_check_book : FnScope N_check_book ["book"] (defScope s_check_book) := ⟨rfl, rfl, rfl, by decide +kernel, rfl, by decide +kernel, by decide +kernel⟩
theorem ok_check_book {P : Program} {w : World} {K : Fg} {mg : Str → Option Value} {base : Heap} (T : Tx P K mg) {fd : FuncData} (F : FnP K "check_book" s_check_book (He.ga K "check_book") fd) : FnOk P w K mg base (L2.CX P w) 2 (He.ga K "check_book") fd ["book"] (p_check_book K) := by
  obtain ⟨fI_BadBook, fd_BadBook, a1_BadBook, low_BadBook⟩ := T.BadBook.lo
  obtain ⟨fd_is_card, F_is_card⟩ := T.f_is_card
  have b_is_card : Binds K fd_is_card ["size", "place", "card"] [] := F_is_card.bindsN fun _ _ _ _ _ _ us hl => match us, hl with | [_, _, _], _ => rfl
  have G_is_card : FnOk P w K mg base (L2.CX P w) 1 (He.ga K "is_card") fd_is_card ["size", "place", "card"] (p_is_card K) := ok_is_card T F_is_card
  obtain ⟨t_MOST, c_MOST⟩ := T.c_MOST
  have sc := sc_check_book
  refine F.ok sc (fun vs H Q E h => ?_) (fun cdv A outer s H vs Q E hr h => ?_)
  · obtain ⟨g, z, B, ss, _⟩ := h
    exact (Paired.length ss).trans rfl
  · obtain ⟨book, z, B, ss, ex, hm, k⟩ := h
    obtain ⟨v0, rfl, z0⟩ := pn1 ss
    have hr1 : Room 1 _ := hr.mono (by decide)
    have tk := takes_of (X := cxOf (L2.CX P w) P w K mg base N_check_book "check_book" (defScope s_check_book) (He.ga K "check_book") cdv A outer s H E) rfl rfl rfl rfl
    refine ⟨_, (pss_cons (ps_if (pt_not (pt_chain op_le op_le pe_int (pe_callB (clen (K := K) rfl) (by rfl) T.b_len (by decide +kernel) (pa_cons (pv 0) pa_nil)) (pe_glob (v := .int (16)) (by rfl) c_MOST ⟨_, rfl⟩))) (pss_one (ps_raise rfl tk (Xi.pmk_low low_BadBook hr1 (by rfl) T.BadBook.gl (pa_cons (pe_un un_neg pe_int) pa_nil)))) pss_nil) (pss_one (ps_for (passes_of rfl) rfl (pi_range1 (by rfl) T.b_range (pa_cons (pe_callB (clen (K := K) rfl) (by rfl) T.b_len (by decide +kernel) (pa_cons (pv 0) pa_nil)) pa_nil)) (pg_name (i := 1) sc.nd rfl (Or.inl rfl)) (pss_one (ps_if (pt_not (pt_val (pe_call G_is_card (hr.mono (by decide)) (by rfl) T.m_is_card F_is_card.kp b_is_card .nil passL (pa_cons (pe_callB (clen (K := K) rfl) (by rfl) T.b_len (by decide +kernel) (pa_cons (pv 0) pa_nil)) (pa_cons (pv 1) (pa_cons (pe_ix (ixl (K := K) rfl) (pv 0) (pv 1) (fun _ _ => rfl)) pa_nil)))))) (pss_one (ps_raise rfl tk (Xi.pmk_low low_BadBook hr1 (by rfl) T.BadBook.gl (pa_cons (pv 1) pa_nil)))) pss_nil))))), ?_⟩
    have w := Wd.start (K := K) ex
    unfold m_check_book at hm
    try dsimp only
    refine s_if w (et_not (et_test (ev_ch_le_le ev_int (ev_len (ev_var (S := (rLst (rLst rInt)).s K book) rfl z0) src_p) ev_int))) (fun hb B1 H1 x1 w1 => ?_) (fun hb B1 H1 x1 w1 => ?_)
    · have hm := it hb hm
      refine s_raise w1 (ea_cons (ev_neg ev_int) ea_nil) (fun cls d B2 H2 x2 w2 hx => ?_)
      cases hm
      exact k cls d _ _ w2.st w2.ex hx
    · have hm := ie hb hm
      obtain ⟨xs3, e4, hm⟩ := ob hm
      refine s_for (R := rInt) (oo := (fun (rr : Unit) => [])) (ρ0 := ()) (fun (place6 : Int) (_ : Unit) => ((atI book place6).bind fun t7 =>
(m_is_card ((book.length : Int), place6, t7)).bind fun r9 =>
cond (!r9) (some (.rt (.error (.one "BadBook" "place" place6)))) (some (.nx ())) : Option (Ctl Unit (Except Xc Unit)))) (fun (_ : Unit) σ' B' => ∃ o_1 : Option V, σ' = [some v0, o_1]) (fun zz => finK _ _ zz = some _) w1 (ei_r1 (ev_len (ev_var (S := (rLst (rLst rInt)).s K book) rfl (Sv.mono _ x1 z0)) src_p) e4) (fun rr σ' B1 B2 e ⟨o_1, hσ⟩ => ⟨o_1, hσ⟩) (fun B2 e => ⟨_, rfl⟩) hm ?_ ?_
      · rintro place6 rst rr vx5 σ' Bt5 Ht5 xt5 wt5 ⟨o_1t5, rfl⟩ hx5 hf N hN dn
        dsimp only [gName]
        obtain ⟨ctl, hfx, hbk5, hrt5⟩ := forL_step hf
        have hm := hfx
        obtain ⟨t7, e8, hm⟩ := ob hm
        obtain ⟨r9, e10, hm⟩ := ob hm
        try dsimp only
        refine s_if wt5 (et_not (et_B ((ev_call0 (g := ((book.length : Int), place6, t7)) (ea_cons (ev_len (ev_var (S := (rLst (rLst rInt)).s K book) rfl (Sv.mono _ xt5 (Sv.mono _ x1 z0))) src_p) (ea_cons (ev_var (S := rInt.s K place6) rfl hx5) (ea_cons (ev_ix (ev_var (S := (rLst (rLst rInt)).s K book) rfl (Sv.mono _ xt5 (Sv.mono _ x1 z0))) (ev_var (S := rInt.s K place6) rfl hx5) src_p e8) ea_nil))) (al_p (fun _ z => z) (al_p (fun _ z => z) (al_p (fun _ z => z) al_nil))) e10).le g_s))) (fun hb B11 H11 x11 w11 => ?_) (fun hb B11 H11 x11 w11 => ?_)
        · have hm := it hb hm
          refine s_raise w11 (ea_cons (ev_var (S := rInt.s K place6) rfl (Sv.mono _ x11 hx5)) ea_nil) (fun cls d B12 H12 x12 w12 hx => ?_)
          cases hm
          replace hm := hrt5 _ rfl
          cases hm
          exact k cls d _ _ w12.st w12.ex hx
        · have hm := ie hb hm
          have hq_ := Option.some.inj hm
          subst hq_
          exact hN () _ _ _ hfx x11 w11 ⟨_, rfl⟩
      · rintro rr σ' B13 H13 x13 w13 ⟨o_1k14, rfl⟩ hm
        try dsimp only
        replace hm := finK_nx hm
        cases hm
        exact k _ _ _ w13.st w13.ex rfl
def m_check_places : Int × (List Int) → Option (Except Xc (List Int)) := fun (size, places) =>
  cond (!(decide ((1 : Int) ≤ size) && decide (size ≤ (16 : Int)))) (some (.error (.one "BadSize" "size" size))) ((rngO (0 : Int) (places.length : Int)).bind fun xs3 =>
  finK (fun (_ : Unit) => (some (.ok (isort places)))) (fun (tt : Except Xc (List Int)) => some tt) (forL (fun (index6 : Int) (_ : Unit) => ((atI places index6).bind fun t7 =>
  (cond (!(decide ((0 : Int) ≤ t7) && decide (t7 < size))) (some true) ((atI places index6).bind fun t9 => some (decide (t9 ∈ (cut places none (some index6)))))).bind fun b11 =>
  cond b11 ((atI places index6).bind fun t14 =>
  some (.rt (.error (.one "BadPlace" "place" t14)))) (some (.nx ())) : Option (Ctl Unit (Except Xc (List Int))))) xs3 ()))
def p_check_places (K : Fg) : Sp := PrX K (He.ga K) (fun (g : Int × (List Int)) => [rInt.s K g.1, (rLst rInt).s K g.2]) m_check_places (rLst rInt)
abbrev N_check_places : List Str := ["size", "places", "index"]
theorem sc_check_places : FnScope N_check_places ["size", "places"] (defScope s_check_places) := ⟨rfl, rfl, rfl, by decide +kernel, rfl, by decide +kernel, by decide +kernel⟩
theorem ok_check_places {P : Program} {w : World} {K : Fg} {mg : Str → Option Value} {base : Heap} (T : Tx P K mg) {fd : FuncData} (F : FnP K "check_places" s_check_places (He.ga K "check_places") fd) : FnOk P w K mg base (L2.CX P w) 2 (He.ga K "check_places") fd ["size", "places"] (p_check_places K) := by
  obtain ⟨fI_BadPlace, fd_BadPlace, a1_BadPlace, low_BadPlace⟩ := T.BadPlace.lo
  obtain ⟨fI_BadSize, fd_BadSize, a1_BadSize, low_BadSize⟩ := T.BadSize.lo
  obtain ⟨t_MOST, c_MOST⟩ := T.c_MOST
  have sc := sc_check_places
  refine F.ok sc (fun vs H Q E h => ?_) (fun cdv A outer s H vs Q E hr h => ?_)
  · obtain ⟨g, z, B, ss, _⟩ := h
    exact (Paired.length ss).trans rfl
  · obtain ⟨⟨size, places⟩, z, B, ss, ex, hm, k⟩ := h
    obtain ⟨v0, v1, rfl, z0, z1⟩ := pn2 ss
    have hr1 : Room 1 _ := hr.mono (by decide)
    have tk := takes_of (X := cxOf (L2.CX P w) P w K mg base N_check_places "check_places" (defScope s_check_places) (He.ga K "check_places") cdv A outer s H E) rfl rfl rfl rfl
    refine ⟨_, (pss_cons (ps_if (pt_not (pt_chain op_le op_le pe_int (pv 0) (pe_glob (v := .int (16)) (by rfl) c_MOST ⟨_, rfl⟩))) (pss_one (ps_raise rfl tk (Xi.pmk_low low_BadSize hr1 (by rfl) T.BadSize.gl (pa_cons (pv 0) pa_nil)))) pss_nil) (pss_cons (ps_for (passes_of rfl) rfl (pi_range1 (by rfl) T.b_range (pa_cons (pe_callB (clen (K := K) rfl) (by rfl) T.b_len (by decide +kernel) (pa_cons (pv 1) pa_nil)) pa_nil)) (pg_name (i := 2) sc.nd rfl (Or.inl rfl)) (pss_one (ps_if (PW.pt (pw_or (pt_not (pt_chain op_le op_lt pe_int (pe_ix (ixl (K := K) rfl) (pv 1) (pv 2) (fun _ _ => rfl)) (pv 0))) (pw_or1 (pt_cmpR (opin (K := K) rfl) (pe_ix (ixl (K := K) rfl) (pv 1) (pv 2) (fun _ _ => rfl)) (pe_slice (sll (K := K) rfl) (pv 1) po_none (po_some (pv 2))) (by rfl))))) (pss_one (ps_raise rfl tk (Xi.pmk_low low_BadPlace hr1 (by rfl) T.BadPlace.gl (pa_cons (pe_ix (ixl (K := K) rfl) (pv 1) (pv 2) (fun _ _ => rfl)) pa_nil)))) pss_nil))) (pss_one (ps_ret (pe_callB (csrt (K := K) rfl) (by rfl) T.b_sorted (by decide +kernel) (pa_cons (pv 1) pa_nil)))))), ?_⟩
    have w := Wd.start (K := K) ex
    unfold m_check_places at hm
    try dsimp only
    refine s_if w (et_not (et_test (ev_ch_le_le ev_int (ev_var (S := rInt.s K size) rfl z0) ev_int))) (fun hb B1 H1 x1 w1 => ?_) (fun hb B1 H1 x1 w1 => ?_)
    · have hm := it hb hm
      refine s_raise w1 (ea_cons (ev_var (S := rInt.s K size) rfl (Sv.mono _ x1 z0)) ea_nil) (fun cls d B2 H2 x2 w2 hx => ?_)
      cases hm
      exact k cls d _ _ w2.st w2.ex hx
    · have hm := ie hb hm
      obtain ⟨xs3, e4, hm⟩ := ob hm
      refine s_for (R := rInt) (oo := (fun (rr : Unit) => [])) (ρ0 := ()) (fun (index6 : Int) (_ : Unit) => ((atI places index6).bind fun t7 =>
(cond (!(decide ((0 : Int) ≤ t7) && decide (t7 < size))) (some true) ((atI places index6).bind fun t9 => some (decide (t9 ∈ (cut places none (some index6)))))).bind fun b11 =>
cond b11 ((atI places index6).bind fun t14 =>
some (.rt (.error (.one "BadPlace" "place" t14)))) (some (.nx ())) : Option (Ctl Unit (Except Xc (List Int))))) (fun (_ : Unit) σ' B' => ∃ o_2 : Option V, σ' = [some v0, some v1, o_2]) (fun zz => finK _ _ zz = some _) w1 (ei_r1 (ev_len (ev_var (S := (rLst rInt).s K places) rfl (Sv.mono _ x1 z1)) src_p) e4) (fun rr σ' B1 B2 e ⟨o_2, hσ⟩ => ⟨o_2, hσ⟩) (fun B2 e => ⟨_, rfl⟩) hm ?_ ?_
      · rintro index6 rst rr vx5 σ' Bt5 Ht5 xt5 wt5 ⟨o_2t5, rfl⟩ hx5 hf N hN dn
        dsimp only [gName]
        obtain ⟨ctl, hfx, hbk5, hrt5⟩ := forL_step hf
        have hm := hfx
        obtain ⟨t7, e8, hm⟩ := ob hm
        obtain ⟨b11, e12, hm⟩ := ob hm
        try dsimp only
        refine s_if wt5 (et_orO (b := b11) (et_not (et_test (ev_ch_le_lt ev_int (ev_ix (ev_var (S := (rLst rInt).s K places) rfl (Sv.mono _ xt5 (Sv.mono _ x1 z1))) (ev_var (S := rInt.s K index6) rfl hx5) src_p e8) (ev_var (S := rInt.s K size) rfl (Sv.mono _ xt5 (Sv.mono _ x1 z0)))))) (fun hc => by have e12 := ie hc e12; obtain ⟨t9, e10, e12⟩ := ob e12; have hq_ := Option.some.inj e12; subst hq_; exact (et_test (ev_in (ev_ix (ev_var (S := (rLst rInt).s K places) rfl (Sv.mono _ xt5 (Sv.mono _ x1 z1))) (ev_var (S := rInt.s K index6) rfl hx5) src_p e10) (ev_cut (ev_var (S := (rLst rInt).s K places) rfl (Sv.mono _ xt5 (Sv.mono _ x1 z1))) eo_none (eo_some (ev_var (S := rInt.s K index6) rfl hx5)) src_p) src_n))) (fun hc => by have e12 := it hc e12; cases e12; exact ⟨rfl, rfl⟩)) (fun hb B13 H13 x13 w13 => ?_) (fun hb B13 H13 x13 w13 => ?_)
        · have hm := it hb hm
          obtain ⟨t14, e15, hm⟩ := ob hm
          refine s_raise w13 (ea_cons (ev_ix (ev_var (S := (rLst rInt).s K places) rfl (Sv.mono _ x13 (Sv.mono _ xt5 (Sv.mono _ x1 z1)))) (ev_var (S := rInt.s K index6) rfl (Sv.mono _ x13 hx5)) src_p e15) ea_nil) (fun cls d B16 H16 x16 w16 hx => ?_)
          cases hm
          replace hm := hrt5 _ rfl
          cases hm
          exact k cls d _ _ w16.st w16.ex hx
        · have hm := ie hb hm
          have hq_ := Option.some.inj hm
          subst hq_
          exact hN () _ _ _ hfx x13 w13 ⟨_, rfl⟩
      · rintro rr σ' B17 H17 x17 w17 ⟨o_2k18, rfl⟩ hm
        try dsimp only
        replace hm := finK_nx hm
        refine s_ret w17 (ev_sortI (ev_var (S := (rLst rInt).s K places) rfl (Sv.mono _ x17 (Sv.mono _ x1 z1))) src_p) (fun vv B19 H19 x19 w19 hv => ?_)
        cases hm
        exact k _ _ _ w19.st w19.ex (r_n w17 (imm_flat _) hv)
def m_first_outside : (List Int) × (List Int) → Option (Int) := fun (card, listed) =>
  finK (fun (_ : Unit) => (some (-1 : Int))) (fun (tt : Int) => some tt) (forL (fun (entry2 : Int) (_ : Unit) => (cond (!decide (entry2 ∈ listed)) (some (.rt entry2)) (some (.nx ())) : Option (Ctl Unit Int))) card ())
def p_first_outside (K : Fg) : Sp := Pr0 K (fun (g : (List Int) × (List Int)) => [(rLst rInt).s K g.1, (rLst rInt).s K g.2]) m_first_outside rInt
abbrev N_first_outside : List Str := ["card", "listed", "entry"]
theorem sc_first_outside : FnScope N_first_outside ["card", "listed"] (defScope s_first_outside) := ⟨rfl, rfl, rfl, by decide +kernel, rfl, by decide +kernel, by decide +kernel⟩
theorem ok_first_outside {P : Program} {w : World} {K : Fg} {mg : Str → Option Value} {base : Heap} (T : Tx P K mg) {fd : FuncData} (F : FnP K "first_outside" s_first_outside (He.ga K "first_outside") fd) : FnOk P w K mg base (L2.CX P w) 1 (He.ga K "first_outside") fd ["card", "listed"] (p_first_outside K) := by
  obtain ⟨t_HOME, c_HOME⟩ := T.c_HOME
  have sc := sc_first_outside
  refine F.ok sc (fun vs H Q E h => ?_) (fun cdv A outer s H vs Q E hr h => ?_)
  · obtain ⟨g, z, B, ss, _⟩ := h
    exact (Paired.length ss).trans rfl
  · obtain ⟨⟨card, listed⟩, z, B, ss, ex, hm, k⟩ := h
    obtain ⟨v0, v1, rfl, z0, z1⟩ := pn2 ss
    refine ⟨_, (pss_cons (ps_for (passes_of rfl) rfl (pi_list (pv 0)) (pg_name (i := 2) sc.nd rfl (Or.inl rfl)) (pss_one (ps_if (pt_cmpR (opnin (K := K) rfl) (pv 2) (pv 1) (by rfl)) (pss_one (ps_ret (pv 2))) pss_nil))) (pss_one (ps_ret (pe_glob (v := .int (-1)) (by rfl) c_HOME ⟨_, rfl⟩)))), ?_⟩
    have w := Wd.start (K := K) ex
    unfold m_first_outside at hm
    refine s_for (R := rInt) (oo := (fun (rr : Unit) => [])) (ρ0 := ()) (fun (entry2 : Int) (_ : Unit) => (cond (!decide (entry2 ∈ listed)) (some (.rt entry2)) (some (.nx ())) : Option (Ctl Unit Int))) (fun (_ : Unit) σ' B' => ∃ o_2 : Option V, σ' = [some v0, some v1, o_2]) (fun zz => finK _ _ zz = some _) w (ei_list (ev_var (S := (rLst rInt).s K card) rfl z0)) (fun rr σ' B1 B2 e ⟨o_2, hσ⟩ => ⟨o_2, hσ⟩) (fun B2 e => ⟨_, rfl⟩) hm ?_ ?_
    · rintro entry2 rst rr vx1 σ' Bt1 Ht1 xt1 wt1 ⟨o_2t1, rfl⟩ hx1 hf N hN dn
      dsimp only [gName]
      obtain ⟨ctl, hfx, hbk1, hrt1⟩ := forL_step hf
      have hm := hfx
      try dsimp only
      refine s_if wt1 (et_test (ev_notin (ev_var (S := rInt.s K entry2) rfl hx1) (ev_var (S := (rLst rInt).s K listed) rfl (Sv.mono _ xt1 z1)) src_p)) (fun hb B3 H3 x3 w3 => ?_) (fun hb B3 H3 x3 w3 => ?_)
      · have hm := it hb hm
        refine s_ret w3 (ev_var (S := rInt.s K entry2) rfl (Sv.mono _ x3 hx1)) (fun vv B4 H4 x4 w4 hv => ?_)
        cases hm
        replace hm := hrt1 _ rfl
        cases hm
        exact k _ _ _ w4.st w4.ex ((imm_flat _) _ _ _ _ _ hv)
      · have hm := ie hb hm
        have hq_ := Option.some.inj hm
        subst hq_
        exact hN () _ _ _ hfx x3 w3 ⟨_, rfl⟩
    · rintro rr σ' B5 H5 x5 w5 ⟨o_2k6, rfl⟩ hm
      try dsimp only
      replace hm := finK_nx hm
      refine s_ret w5 ev_int (fun vv B7 H7 x7 w7 hv => ?_)
      cases hm
      exact k _ _ _ w7.st w7.ex ((imm_flat _) _ _ _ _ _ hv)
def m_first_open : (List (List Int)) × Int × (List Int) → Option (Except Xc Int) := fun (book, place, shut) =>
  (m_check_book book).bind fun rx => match rx with
  | .error xe => some (.error xe)
  | .ok r1 => ((m_check_places ((book.length : Int), [place])).bind fun rx => match rx with
  | .error xe => some (.error xe)
  | .ok r4 => ((m_check_places ((book.length : Int), shut)).bind fun rx => match rx with
  | .error xe => some (.error xe)
  | .ok r7 => ((atI book place).bind fun t10 =>
  (m_first_outside (t10, shut)).bind fun r12 =>
  some (.ok r12))))
def p_first_open (K : Fg) : Sp := PrX K (He.ga K) (fun (g : (List (List Int)) × Int × (List Int)) => [(rLst (rLst rInt)).s K g.1, rInt.s K g.2.1, (rLst rInt).s K g.2.2]) m_first_open rInt
abbrev N_first_open : List Str := ["book", "place", "shut"]
theorem sc_first_open : FnScope N_first_open ["book", "place", "shut"] (defScope s_first_open) := ⟨rfl, rfl, rfl, by decide +kernel, rfl, by decide +kernel, by decide +kernel⟩
theorem ok_first_open {P : Program} {w : World} {K : Fg} {mg : Str → Option Value} {base : Heap} (T : Tx P K mg) {fd : FuncData} (F : FnP K "first_open" s_first_open (He.ga K "first_open") fd) : FnOk P w K mg base (L2.CX P w) 3 (He.ga K "first_open") fd ["book", "place", "shut"] (p_first_open K) := by
  obtain ⟨fd_check_book, F_check_book⟩ := T.f_check_book
  have b_check_book : Binds K fd_check_book ["book"] [] := F_check_book.bindsN fun _ _ _ _ _ _ us hl => match us, hl with | [_], _ => rfl
  have G_check_book : FnOk P w K mg base (L2.CX P w) 2 (He.ga K "check_book") fd_check_book ["book"] (p_check_book K) := ok_check_book T F_check_book
  obtain ⟨fd_check_places, F_check_places⟩ := T.f_check_places
  have b_check_places : Binds K fd_check_places ["size", "places"] [] := F_check_places.bindsN fun _ _ _ _ _ _ us hl => match us, hl with | [_, _], _ => rfl
  have G_check_places : FnOk P w K mg base (L2.CX P w) 2 (He.ga K "check_places") fd_check_places ["size", "places"] (p_check_places K) := ok_check_places T F_check_places
  obtain ⟨fd_first_outside, F_first_outside⟩ := T.f_first_outside
  have b_first_outside : Binds K fd_first_outside ["card", "listed"] [] := F_first_outside.bindsN fun _ _ _ _ _ _ us hl => match us, hl with | [_, _], _ => rfl
  have G_first_outside : FnOk P w K mg base (L2.CX P w) 1 (He.ga K "first_outside") fd_first_outside ["card", "listed"] (p_first_outside K) := ok_first_outside T F_first_outside
  have sc := sc_first_open
  refine F.ok sc (fun vs H Q E h => ?_) (fun cdv A outer s H vs Q E hr h => ?_)
  · obtain ⟨g, z, B, ss, _⟩ := h
    exact (Paired.length ss).trans rfl
  · obtain ⟨⟨book, place, shut⟩, z, B, ss, ex, hm, k⟩ := h
    obtain ⟨v0, v1, v2, rfl, z0, z1, z2⟩ := pn3 ss
    have tk := takes_of (X := cxOf (L2.CX P w) P w K mg base N_first_open "first_open" (defScope s_first_open) (He.ga K "first_open") cdv A outer s H E) rfl rfl rfl rfl
    refine ⟨_, (pss_cons (ps_expr (pe_call G_check_book (hr.mono (by decide)) (by rfl) T.m_check_book F_check_book.kp b_check_book .nil (passes_call tk fun _ _ _ _ h => h) (pa_cons (pv 0) pa_nil))) (pss_cons (ps_expr (pe_call G_check_places (hr.mono (by decide)) (by rfl) T.m_check_places F_check_places.kp b_check_places .nil (passes_call tk fun _ _ _ _ h => h) (pa_cons (pe_callB (clen (K := K) rfl) (by rfl) T.b_len (by decide +kernel) (pa_cons (pv 0) pa_nil)) (pa_cons (pe_lst (pa_cons (pv 1) pa_nil)) pa_nil)))) (pss_cons (ps_expr (pe_call G_check_places (hr.mono (by decide)) (by rfl) T.m_check_places F_check_places.kp b_check_places .nil (passes_call tk fun _ _ _ _ h => h) (pa_cons (pe_callB (clen (K := K) rfl) (by rfl) T.b_len (by decide +kernel) (pa_cons (pv 0) pa_nil)) (pa_cons (pv 2) pa_nil)))) (pss_one (ps_ret (pe_call G_first_outside (hr.mono (by decide)) (by rfl) T.m_first_outside F_first_outside.kp b_first_outside .nil passL (pa_cons (pe_ix (ixl (K := K) rfl) (pv 0) (pv 1) (fun _ _ => rfl)) (pa_cons (pv 2) pa_nil)))))))), ?_⟩
    have w := Wd.start (K := K) ex
    unfold m_first_open at hm
    obtain ⟨r1, e2, hm⟩ := ob hm
    cases r1 with
    | error r1 =>
      refine callX w (ea_cons (ev_var (S := (rLst (rLst rInt)).s K book) rfl z0) ea_nil) (al_p (fun _ z => z) al_nil) e2 (fun cls d B3 H3 x3 w3 hx => ?_)
      cases hm
      exact k cls d _ _ w3.st w3.ex hx
    | ok r1 =>
      refine s_drop w (ev_callXok (g := book) (ea_cons (ev_var (S := (rLst (rLst rInt)).s K book) rfl z0) ea_nil) (al_p (fun _ z => z) al_nil) e2) (fun B3 H3 x3 w3 => ?_)
      try dsimp only
      obtain ⟨r4, e5, hm⟩ := ob hm
      cases r4 with
      | error r4 =>
        refine callX w3 (ea_cons (ev_len (ev_var (S := (rLst (rLst rInt)).s K book) rfl (Sv.mono _ x3 z0)) src_p) (ea_cons (ev_lst (R := rInt) (xs := [place]) (ea_cons (ev_var (S := rInt.s K place) rfl (Sv.mono _ x3 z1)) ea_nil) (by show 1 ≤ 1000; decide)) ea_nil)) (al_p (fun _ z => z) (al_le sn_s (fun _ z => z) al_nil)) e5 (fun cls d B6 H6 x6 w6 hx => ?_)
        cases hm
        exact k cls d _ _ w6.st w6.ex hx
      | ok r4 =>
        refine s_drop w3 (ev_callXok (g := ((book.length : Int), [place])) (ea_cons (ev_len (ev_var (S := (rLst (rLst rInt)).s K book) rfl (Sv.mono _ x3 z0)) src_p) (ea_cons (ev_lst (R := rInt) (xs := [place]) (ea_cons (ev_var (S := rInt.s K place) rfl (Sv.mono _ x3 z1)) ea_nil) (by show 1 ≤ 1000; decide)) ea_nil)) (al_p (fun _ z => z) (al_le sn_s (fun _ z => z) al_nil)) e5) (fun B6 H6 x6 w6 => ?_)
        try dsimp only
        obtain ⟨r7, e8, hm⟩ := ob hm
        cases r7 with
        | error r7 =>
          refine callX w6 (ea_cons (ev_len (ev_var (S := (rLst (rLst rInt)).s K book) rfl (Sv.mono _ x6 (Sv.mono _ x3 z0))) src_p) (ea_cons (ev_var (S := (rLst rInt).s K shut) rfl (Sv.mono _ x6 (Sv.mono _ x3 z2))) ea_nil)) (al_p (fun _ z => z) (al_p (fun _ z => z) al_nil)) e8 (fun cls d B9 H9 x9 w9 hx => ?_)
          cases hm
          exact k cls d _ _ w9.st w9.ex hx
        | ok r7 =>
          refine s_drop w6 (ev_callXok (g := ((book.length : Int), shut)) (ea_cons (ev_len (ev_var (S := (rLst (rLst rInt)).s K book) rfl (Sv.mono _ x6 (Sv.mono _ x3 z0))) src_p) (ea_cons (ev_var (S := (rLst rInt).s K shut) rfl (Sv.mono _ x6 (Sv.mono _ x3 z2))) ea_nil)) (al_p (fun _ z => z) (al_p (fun _ z => z) al_nil)) e8) (fun B9 H9 x9 w9 => ?_)
          try dsimp only
          obtain ⟨t10, e11, hm⟩ := ob hm
          obtain ⟨r12, e13, hm⟩ := ob hm
          refine s_ret w9 ((ev_call0 (g := (t10, shut)) (ea_cons (ev_ix (ev_var (S := (rLst (rLst rInt)).s K book) rfl (Sv.mono _ x9 (Sv.mono _ x6 (Sv.mono _ x3 z0)))) (ev_var (S := rInt.s K place) rfl (Sv.mono _ x9 (Sv.mono _ x6 (Sv.mono _ x3 z1)))) src_p e11) (ea_cons (ev_var (S := (rLst rInt).s K shut) rfl (Sv.mono _ x9 (Sv.mono _ x6 (Sv.mono _ x3 z2)))) ea_nil)) (al_p (fun _ z => z) (al_p (fun _ z => z) al_nil)) e13).le g_s) (fun vv B14 H14 x14 w14 hv => ?_)
          cases hm
          exact k _ _ _ w14.st w14.ex ((imm_flat _) _ _ _ _ _ hv)
def m_places_ahead : (List (List Int)) × Int × Int → Option (Except Xc (Option (List Int))) := fun (book, place, goal) =>
  (m_check_book book).bind fun rx => match rx with
  | .error xe => some (.error xe)
  | .ok r1 => ((m_check_places ((book.length : Int), [place])).bind fun rx => match rx with
  | .error xe => some (.error xe)
  | .ok r4 => ((m_check_places ((book.length : Int), [goal])).bind fun rx => match rx with
  | .error xe => some (.error xe)
  | .ok r7 => ((atI book place).bind fun t10 =>
  cond (decide (goal = place)) (some (.ok (some ([] : List Int)))) (cond (!decide (goal ∈ t10)) (some (.ok none)) ((idxO t10 goal).bind fun t19 =>
  (catO [place] (cut t10 none (some t19))).bind fun t23 =>
  some (.ok (some t23)))))))
def p_places_ahead (K : Fg) : Sp := PrX K (He.ga K) (fun (g : (List (List Int)) × Int × Int) => [(rLst (rLst rInt)).s K g.1, rInt.s K g.2.1, rInt.s K g.2.2]) m_places_ahead (rOpt (rLst rInt))
abbrev N_places_ahead : List Str := ["book", "place", "goal", "card"]
theorem sc_places_ahead : FnScope N_places_ahead ["book", "place", "goal"] (defScope s_places_ahead) := ⟨rfl, rfl, rfl, by decide +kernel, rfl, by decide +kernel, by decide +kernel⟩
theorem ok_places_ahead {P : Program} {w : World} {K : Fg} {mg : Str → Option Value} {base : Heap} (T : Tx P K mg) {fd : FuncData} (F : FnP K "places_ahead" s_places_ahead (He.ga K "places_ahead") fd) : FnOk P w K mg base (L2.CX P w) 3 (He.ga K "places_ahead") fd ["book", "place", "goal"] (p_places_ahead K) := by
  obtain ⟨fd_check_book, F_check_book⟩ := T.f_check_book
  have b_check_book : Binds K fd_check_book ["book"] [] := F_check_book.bindsN fun _ _ _ _ _ _ us hl => match us, hl with | [_], _ => rfl
  have G_check_book : FnOk P w K mg base (L2.CX P w) 2 (He.ga K "check_book") fd_check_book ["book"] (p_check_book K) := ok_check_book T F_check_book
  obtain ⟨fd_check_places, F_check_places⟩ := T.f_check_places
  have b_check_places : Binds K fd_check_places ["size", "places"] [] := F_check_places.bindsN fun _ _ _ _ _ _ us hl => match us, hl with | [_, _], _ => rfl
  have G_check_places : FnOk P w K mg base (L2.CX P w) 2 (He.ga K "check_places") fd_check_places ["size", "places"] (p_check_places K) := ok_check_places T F_check_places
  have sc := sc_places_ahead
  refine F.ok sc (fun vs H Q E h => ?_) (fun cdv A outer s H vs Q E hr h => ?_)
  · obtain ⟨g, z, B, ss, _⟩ := h
    exact (Paired.length ss).trans rfl
  · obtain ⟨⟨book, place, goal⟩, z, B, ss, ex, hm, k⟩ := h
    obtain ⟨v0, v1, v2, rfl, z0, z1, z2⟩ := pn3 ss
    have tk := takes_of (X := cxOf (L2.CX P w) P w K mg base N_places_ahead "places_ahead" (defScope s_places_ahead) (He.ga K "places_ahead") cdv A outer s H E) rfl rfl rfl rfl
    refine ⟨_, (pss_cons (ps_expr (pe_call G_check_book (hr.mono (by decide)) (by rfl) T.m_check_book F_check_book.kp b_check_book .nil (passes_call tk fun _ _ _ _ h => h) (pa_cons (pv 0) pa_nil))) (pss_cons (ps_expr (pe_call G_check_places (hr.mono (by decide)) (by rfl) T.m_check_places F_check_places.kp b_check_places .nil (passes_call tk fun _ _ _ _ h => h) (pa_cons (pe_callB (clen (K := K) rfl) (by rfl) T.b_len (by decide +kernel) (pa_cons (pv 0) pa_nil)) (pa_cons (pe_lst (pa_cons (pv 1) pa_nil)) pa_nil)))) (pss_cons (ps_expr (pe_call G_check_places (hr.mono (by decide)) (by rfl) T.m_check_places F_check_places.kp b_check_places .nil (passes_call tk fun _ _ _ _ h => h) (pa_cons (pe_callB (clen (K := K) rfl) (by rfl) T.b_len (by decide +kernel) (pa_cons (pv 0) pa_nil)) (pa_cons (pe_lst (pa_cons (pv 2) pa_nil)) pa_nil)))) (pss_cons (ps_set (i := 3) sc.nd rfl (Or.inl rfl) (pe_ix (ixl (K := K) rfl) (pv 0) (pv 1) (fun _ _ => rfl))) (pss_cons (ps_if (pt_cmpR op_eq (pv 2) (pv 1) (nomark _)) (pss_one (ps_ret (pe_lst pa_nil))) pss_nil) (pss_cons (ps_if (pt_cmpR (opnin (K := K) rfl) (pv 2) (pv 3) (by rfl)) (pss_one (ps_ret pe_non)) pss_nil) (pss_one (ps_ret (pe_op op_cat (pe_lst (pa_cons (pv 1) pa_nil)) (pe_slice (sll (K := K) rfl) (pv 3) po_none (po_some (pe_bm PySem.F.plainAttrs_list PySem.F.slot_list_index PySem.F.type_list_index mt_index (pv 3) (pa_cons (pv 2) pa_nil))))))))))))), ?_⟩
    have w := Wd.start (K := K) ex
    unfold m_places_ahead at hm
    obtain ⟨r1, e2, hm⟩ := ob hm
    cases r1 with
    | error r1 =>
      refine callX w (ea_cons (ev_var (S := (rLst (rLst rInt)).s K book) rfl z0) ea_nil) (al_p (fun _ z => z) al_nil) e2 (fun cls d B3 H3 x3 w3 hx => ?_)
      cases hm
      exact k cls d _ _ w3.st w3.ex hx
    | ok r1 =>
      refine s_drop w (ev_callXok (g := book) (ea_cons (ev_var (S := (rLst (rLst rInt)).s K book) rfl z0) ea_nil) (al_p (fun _ z => z) al_nil) e2) (fun B3 H3 x3 w3 => ?_)
      try dsimp only
      obtain ⟨r4, e5, hm⟩ := ob hm
      cases r4 with
      | error r4 =>
        refine callX w3 (ea_cons (ev_len (ev_var (S := (rLst (rLst rInt)).s K book) rfl (Sv.mono _ x3 z0)) src_p) (ea_cons (ev_lst (R := rInt) (xs := [place]) (ea_cons (ev_var (S := rInt.s K place) rfl (Sv.mono _ x3 z1)) ea_nil) (by show 1 ≤ 1000; decide)) ea_nil)) (al_p (fun _ z => z) (al_le sn_s (fun _ z => z) al_nil)) e5 (fun cls d B6 H6 x6 w6 hx => ?_)
        cases hm
        exact k cls d _ _ w6.st w6.ex hx
      | ok r4 =>
        refine s_drop w3 (ev_callXok (g := ((book.length : Int), [place])) (ea_cons (ev_len (ev_var (S := (rLst (rLst rInt)).s K book) rfl (Sv.mono _ x3 z0)) src_p) (ea_cons (ev_lst (R := rInt) (xs := [place]) (ea_cons (ev_var (S := rInt.s K place) rfl (Sv.mono _ x3 z1)) ea_nil) (by show 1 ≤ 1000; decide)) ea_nil)) (al_p (fun _ z => z) (al_le sn_s (fun _ z => z) al_nil)) e5) (fun B6 H6 x6 w6 => ?_)
        try dsimp only
        obtain ⟨r7, e8, hm⟩ := ob hm
        cases r7 with
        | error r7 =>
          refine callX w6 (ea_cons (ev_len (ev_var (S := (rLst (rLst rInt)).s K book) rfl (Sv.mono _ x6 (Sv.mono _ x3 z0))) src_p) (ea_cons (ev_lst (R := rInt) (xs := [goal]) (ea_cons (ev_var (S := rInt.s K goal) rfl (Sv.mono _ x6 (Sv.mono _ x3 z2))) ea_nil) (by show 1 ≤ 1000; decide)) ea_nil)) (al_p (fun _ z => z) (al_le sn_s (fun _ z => z) al_nil)) e8 (fun cls d B9 H9 x9 w9 hx => ?_)
          cases hm
          exact k cls d _ _ w9.st w9.ex hx
        | ok r7 =>
          refine s_drop w6 (ev_callXok (g := ((book.length : Int), [goal])) (ea_cons (ev_len (ev_var (S := (rLst (rLst rInt)).s K book) rfl (Sv.mono _ x6 (Sv.mono _ x3 z0))) src_p) (ea_cons (ev_lst (R := rInt) (xs := [goal]) (ea_cons (ev_var (S := rInt.s K goal) rfl (Sv.mono _ x6 (Sv.mono _ x3 z2))) ea_nil) (by show 1 ≤ 1000; decide)) ea_nil)) (al_p (fun _ z => z) (al_le sn_s (fun _ z => z) al_nil)) e8) (fun B9 H9 x9 w9 => ?_)
          try dsimp only
          obtain ⟨t10, e11, hm⟩ := ob hm
          refine s_asg w9 (ev_ix (ev_var (S := (rLst (rLst rInt)).s K book) rfl (Sv.mono _ x9 (Sv.mono _ x6 (Sv.mono _ x3 z0)))) (ev_var (S := rInt.s K place) rfl (Sv.mono _ x9 (Sv.mono _ x6 (Sv.mono _ x3 z1)))) src_p e11) (fun w_v13 B12 H12 x12 w12 h14 => ?_)
          try dsimp only
          refine s_if w12 (et_test (ev_eqI (ev_var (S := rInt.s K goal) rfl (Sv.mono _ x12 (Sv.mono _ x9 (Sv.mono _ x6 (Sv.mono _ x3 z2))))) (ev_var (S := rInt.s K place) rfl (Sv.mono _ x12 (Sv.mono _ x9 (Sv.mono _ x6 (Sv.mono _ x3 z1))))))) (fun hb B15 H15 x15 w15 => ?_) (fun hb B15 H15 x15 w15 => ?_)
          · have hm := it hb hm
            refine s_ret w15 ((ev_lst (R := rInt) (xs := []) ea_nil (by decide)).le (sle_trans (sn_g (imm_flat _)) g_opt)) (fun vv B16 H16 x16 w16 hv => ?_)
            cases hm
            exact k _ _ _ w16.st w16.ex (r_f w15 hv)
          · have hm := ie hb hm
            try dsimp only
            refine s_if w15 (et_test (ev_notin (ev_var (S := rInt.s K goal) rfl (Sv.mono _ x15 (Sv.mono _ x12 (Sv.mono _ x9 (Sv.mono _ x6 (Sv.mono _ x3 z2)))))) (ev_var (S := (rLst rInt).s K t10) rfl (Sv.mono _ x15 h14)) src_p)) (fun hb B17 H17 x17 w17 => ?_) (fun hb B17 H17 x17 w17 => ?_)
            · have hm := it hb hm
              refine s_ret w17 (ev_nonG (R := (rLst rInt))) (fun vv B18 H18 x18 w18 hv => ?_)
              cases hm
              exact k _ _ _ w18.st w18.ex (r_f w17 hv)
            · have hm := ie hb hm
              obtain ⟨t19, e20, hm⟩ := ob hm
              obtain ⟨t23, e21, hm⟩ := ob hm
              refine s_ret w17 ((ev_catO (ev_lst (R := rInt) (xs := [place]) (ea_cons (ev_var (S := rInt.s K place) rfl (Sv.mono _ x17 (Sv.mono _ x15 (Sv.mono _ x12 (Sv.mono _ x9 (Sv.mono _ x6 (Sv.mono _ x3 z1))))))) ea_nil) (by show 1 ≤ 1000; decide)) (ev_cut (ev_var (S := (rLst rInt).s K t10) rfl (Sv.mono _ x17 (Sv.mono _ x15 h14))) eo_none (eo_some (ev_index (ev_var (S := (rLst rInt).s K t10) rfl (Sv.mono _ x17 (Sv.mono _ x15 h14))) (ev_var (S := rInt.s K goal) rfl (Sv.mono _ x17 (Sv.mono _ x15 (Sv.mono _ x12 (Sv.mono _ x9 (Sv.mono _ x6 (Sv.mono _ x3 z2))))))) src_p src_p e20)) src_p) src_n src_n e21).le (sle_trans (sn_g (imm_flat _)) g_opt)) (fun vv B24 H24 x24 w24 hv => ?_)
              cases hm
              exact k _ _ _ w24.st w24.ex (r_f w17 hv)
def m_arrow_ends : (List Int) × (List Int) → Option (List Int) := fun (card, kept) =>
  finK (fun (ends4 : (List Int)) => ((catO ends4 [(-1 : Int)]).bind fun t15 =>
  some t15)) (fun (tt : List Int) => some tt) (forL (fun (entry6 : Int) (ends4 : (List Int)) => ((appO ends4 entry6).bind fun ends7 =>
  cond (decide (entry6 ∈ kept)) (some (.rt ends7)) (some (.nx ends7)) : Option (Ctl (List Int) (List Int)))) card ([] : List Int))
def p_arrow_ends (K : Fg) : Sp := Pr0 K (fun (g : (List Int) × (List Int)) => [(rLst rInt).s K g.1, (rLst rInt).s K g.2]) m_arrow_ends (rLst rInt)
abbrev N_arrow_ends : List Str := ["card", "kept", "ends", "entry"]
theorem sc_arrow_ends : FnScope N_arrow_ends ["card", "kept"] (defScope s_arrow_ends) := ⟨rfl, rfl, rfl, by decide +kernel, rfl, by decide +kernel, by decide +kernel⟩
theorem ok_arrow_ends {P : Program} {w : World} {K : Fg} {mg : Str → Option Value} {base : Heap} (T : Tx P K mg) {fd : FuncData} (F : FnP K "arrow_ends" s_arrow_ends (He.ga K "arrow_ends") fd) : FnOk P w K mg base (L2.CX P w) 1 (He.ga K "arrow_ends") fd ["card", "kept"] (p_arrow_ends K) := by
  obtain ⟨t_HOME, c_HOME⟩ := T.c_HOME
  have sc := sc_arrow_ends
  refine F.ok sc (fun vs H Q E h => ?_) (fun cdv A outer s H vs Q E hr h => ?_)
  · obtain ⟨g, z, B, ss, _⟩ := h
    exact (Paired.length ss).trans rfl
  · obtain ⟨⟨card, kept⟩, z, B, ss, ex, hm, k⟩ := h
    obtain ⟨v0, v1, rfl, z0, z1⟩ := pn2 ss
    refine ⟨_, (pss_cons (ps_set (i := 2) sc.nd rfl (Or.inl rfl) (pe_lst pa_nil)) (pss_cons (ps_for (passes_of rfl) rfl (pi_list (pv 0)) (pg_name (i := 3) sc.nd rfl (Or.inl rfl)) (pss_cons (ps_expr (pe_bm PySem.F.plainAttrs_list PySem.F.slot_list_append PySem.F.type_list_append mt_append (pv 2) (pa_cons (pv 3) pa_nil))) (pss_one (ps_if (pt_cmpR (opin (K := K) rfl) (pv 3) (pv 1) (by rfl)) (pss_one (ps_ret (pv 2))) pss_nil)))) (pss_one (ps_ret (pe_lst (paStar (K := K) rfl (pv 2) (pa_cons (pe_glob (v := .int (-1)) (by rfl) c_HOME ⟨_, rfl⟩) pa_nil))))))), ?_⟩
    have w := Wd.start (K := K) ex
    unfold m_arrow_ends at hm
    refine s_ownNil rInt w (fun q2 H1 n3 w1 => ?_)
    try dsimp only
    refine s_for (R := rInt) (oo := (fun (rr : (List Int)) => [CL rInt K rr])) (ρ0 := ([] : List Int)) (fun (entry6 : Int) (ends4 : (List Int)) => ((appO ends4 entry6).bind fun ends7 =>
cond (decide (entry6 ∈ kept)) (some (.rt ends7)) (some (.nx ends7)) : Option (Ctl (List Int) (List Int)))) (fun (rr : (List Int)) σ' B' => ∃ o_3 : Option V, σ' = [some v0, some v1, some (.ref q2), o_3]) (fun zz => finK _ _ zz = some _) w1 (ei_list (ev_var (S := (rLst rInt).s K card) rfl z0)) (fun rr σ' B1 B2 e ⟨o_3, hσ⟩ => ⟨o_3, hσ⟩) (fun B2 e => ⟨_, rfl⟩) hm ?_ ?_
    · rintro entry6 rst ends4 vx5 σ' Bt5 Ht5 xt5 wt5 ⟨o_3t5, rfl⟩ hx5 hf N hN dn
      dsimp only [gName]
      obtain ⟨ctl, hfx, hbk5, hrt5⟩ := forL_step hf
      have hm := hfx
      obtain ⟨ends7, e8, hm⟩ := ob hm
      refine s_drop wt5 (ev_app 0 rfl (ev_var (S := SA q2) rfl rfl) rfl (ev_var (S := rInt.s K entry6) rfl hx5) rfl e8) (fun B9 H9 x9 w9 => ?_)
      try dsimp only
      refine s_if w9 (et_test (ev_in (ev_var (S := rInt.s K entry6) rfl (Sv.mono _ x9 hx5)) (ev_var (S := (rLst rInt).s K kept) rfl (Sv.mono _ x9 (Sv.mono _ xt5 z1))) src_p)) (fun hb B10 H10 x10 w10 => ?_) (fun hb B10 H10 x10 w10 => ?_)
      · have hm := it hb hm
        refine s_ret w10 (ev_var (S := SA q2) rfl rfl) (fun vv B11 H11 x11 w11 hv => ?_)
        cases (show vv = _ from hv)
        cases hm
        replace hm := hrt5 _ rfl
        cases hm
        obtain ⟨Bz, xz, w12, rz⟩ := r_o w11 n3 (imm_flat _)
        exact k _ _ _ w12.st w12.ex rz
      · have hm := ie hb hm
        have hq_ := Option.some.inj hm
        subst hq_
        exact hN ends7 _ _ _ hfx (x9.trans x10) w10 ⟨_, rfl⟩
    · rintro ends4 σ' B13 H13 x13 w13 ⟨o_3k14, rfl⟩ hm
      try dsimp only
      replace hm := finK_nx hm
      obtain ⟨t15, e16, hm⟩ := ob hm
      refine s_ret w13 (ev_lstStar (R := rInt) (xs := ends4) (ys := [(-1 : Int)]) (ea_star (R := rInt) (xs := ends4) (ev_var (S := SA q2) rfl rfl) (src_o (R := rInt) (xs := ends4) 0 rfl rfl) (ea_cons ev_int ea_nil)) e16) (fun vv B17 H17 x17 w17 hv => ?_)
      cases hm
      exact k _ _ _ w17.st w17.ex (r_n w13 (imm_flat _) hv)
def m_arrows : (List (List Int)) × (List Int) → Option (Except Xc (List (List Int))) := fun (book, kept) =>
  (m_check_book book).bind fun rx => match rx with
  | .error xe => some (.error xe)
  | .ok r1 => ((m_check_places ((book.length : Int), kept)).bind fun rx => match rx with
  | .error xe => some (.error xe)
  | .ok r4 => ((lcO (fun (pr : Int × (List Int)) (rr : Unit) => match rr with | () => some (true, ())) (fun (pr : Int × (List Int)) (rr : Unit) => match rr with | () => (cond (decide (pr.1 ∈ r4)) (some ([] : List Int)) ((m_arrow_ends (pr.2, r4)).bind fun r9 => some r9)).bind fun t11 => some (t11, ())) (enumL book) ()).bind fun (ys13, _) =>
  some (.ok ys13)))
def p_arrows (K : Fg) : Sp := PrX K (He.ga K) (fun (g : (List (List Int)) × (List Int)) => [(rLst (rLst rInt)).s K g.1, (rLst rInt).s K g.2]) m_arrows rLL
abbrev N_arrows : List Str := ["book", "kept", "staying", "place", "card"]
theorem sc_arrows : FnScope N_arrows ["book", "kept"] (defScope s_arrows) := ⟨rfl, rfl, rfl, by decide +kernel, rfl, by decide +kernel, by decide +kernel⟩
theorem ok_arrows {P : Program} {w : World} {K : Fg} {mg : Str → Option Value} {base : Heap} (T : Tx P K mg) {fd : FuncData} (F : FnP K "arrows" s_arrows (He.ga K "arrows") fd) : FnOk P w K mg base (L2.CX P w) 3 (He.ga K "arrows") fd ["book", "kept"] (p_arrows K) := by
  obtain ⟨fd_arrow_ends, F_arrow_ends⟩ := T.f_arrow_ends
  have b_arrow_ends : Binds K fd_arrow_ends ["card", "kept"] [] := F_arrow_ends.bindsN fun _ _ _ _ _ _ us hl => match us, hl with | [_, _], _ => rfl
  have G_arrow_ends : FnOk P w K mg base (L2.CX P w) 1 (He.ga K "arrow_ends") fd_arrow_ends ["card", "kept"] (p_arrow_ends K) := ok_arrow_ends T F_arrow_ends
  obtain ⟨fd_check_book, F_check_book⟩ := T.f_check_book
  have b_check_book : Binds K fd_check_book ["book"] [] := F_check_book.bindsN fun _ _ _ _ _ _ us hl => match us, hl with | [_], _ => rfl
  have G_check_book : FnOk P w K mg base (L2.CX P w) 2 (He.ga K "check_book") fd_check_book ["book"] (p_check_book K) := ok_check_book T F_check_book
  obtain ⟨fd_check_places, F_check_places⟩ := T.f_check_places
  have b_check_places : Binds K fd_check_places ["size", "places"] [] := F_check_places.bindsN fun _ _ _ _ _ _ us hl => match us, hl with | [_, _], _ => rfl
  have G_check_places : FnOk P w K mg base (L2.CX P w) 2 (He.ga K "check_places") fd_check_places ["size", "places"] (p_check_places K) := ok_check_places T F_check_places
  have sc := sc_arrows
  refine F.ok sc (fun vs H Q E h => ?_) (fun cdv A outer s H vs Q E hr h => ?_)
  · obtain ⟨g, z, B, ss, _⟩ := h
    exact (Paired.length ss).trans rfl
  · obtain ⟨⟨book, kept⟩, z, B, ss, ex, hm, k⟩ := h
    obtain ⟨v0, v1, rfl, z0, z1⟩ := pn2 ss
    have tk := takes_of (X := cxOf (L2.CX P w) P w K mg base N_arrows "arrows" (defScope s_arrows) (He.ga K "arrows") cdv A outer s H E) rfl rfl rfl rfl
    refine ⟨_, (pss_cons (ps_expr (pe_call G_check_book (hr.mono (by decide)) (by rfl) T.m_check_book F_check_book.kp b_check_book .nil (passes_call tk fun _ _ _ _ h => h) (pa_cons (pv 0) pa_nil))) (pss_cons (ps_set (i := 2) sc.nd rfl (Or.inr rfl) (pe_call G_check_places (hr.mono (by decide)) (by rfl) T.m_check_places F_check_places.kp b_check_places .nil (passes_call tk fun _ _ _ _ h => h) (pa_cons (pe_callB (clen (K := K) rfl) (by rfl) T.b_len (by decide +kernel) (pa_cons (pv 0) pa_nil)) (pa_cons (pv 1) pa_nil)))) (pss_one (ps_ret (pe_lc (own := [("place", 3), ("card", 4)]) (g := (gTup K 2 (gCons (gName 3) (gCons (gName 4) gNil)))) (by rfl) sc.nd (pi_enum (by rfl) T.b_enumerate (pa_cons (pv 0) pa_nil)) (blkOk_by (own := [("place", 3), ("card", 4)]) (N := N_arrows) (sc := defScope s_arrows) (by decide +kernel)) (fun _ _ _ _ _ => pgt (K := K) rfl rfl (pgs_cons (pg_name (i := 3) sc.nd rfl (Or.inl rfl)) (pgs_cons (pg_name (i := 4) sc.nd rfl (Or.inl rfl)) pgs_nil))) (fun _ _ _ _ _ => pts_nil) (fun _ _ _ _ _ => (pe_ifExp (pt_cmpR (opin (K := K) rfl) (pv 3) (pv 2) (by rfl)) (pe_lst pa_nil) (pe_call G_arrow_ends (hr.mono (by decide)) (by rfl) T.m_arrow_ends F_arrow_ends.kp b_arrow_ends .nil passL (pa_cons (pv 4) (pa_cons (pv 2) pa_nil)))))))))), ?_⟩
    have w := Wd.start (K := K) ex
    unfold m_arrows at hm
    obtain ⟨r1, e2, hm⟩ := ob hm
    cases r1 with
    | error r1 =>
      refine callX w (ea_cons (ev_var (S := (rLst (rLst rInt)).s K book) rfl z0) ea_nil) (al_p (fun _ z => z) al_nil) e2 (fun cls d B3 H3 x3 w3 hx => ?_)
      cases hm
      exact k cls d _ _ w3.st w3.ex hx
    | ok r1 =>
      refine s_drop w (ev_callXok (g := book) (ea_cons (ev_var (S := (rLst (rLst rInt)).s K book) rfl z0) ea_nil) (al_p (fun _ z => z) al_nil) e2) (fun B3 H3 x3 w3 => ?_)
      try dsimp only
      obtain ⟨r4, e5, hm⟩ := ob hm
      cases r4 with
      | error r4 =>
        refine callX w3 (ea_cons (ev_len (ev_var (S := (rLst (rLst rInt)).s K book) rfl (Sv.mono _ x3 z0)) src_p) (ea_cons (ev_var (S := (rLst rInt).s K kept) rfl (Sv.mono _ x3 z1)) ea_nil)) (al_p (fun _ z => z) (al_p (fun _ z => z) al_nil)) e5 (fun cls d B6 H6 x6 w6 hx => ?_)
        cases hm
        exact k cls d _ _ w6.st w6.ex hx
      | ok r4 =>
        refine s_asg w3 ((ev_callXok (g := ((book.length : Int), kept)) (ea_cons (ev_len (ev_var (S := (rLst (rLst rInt)).s K book) rfl (Sv.mono _ x3 z0)) src_p) (ea_cons (ev_var (S := (rLst rInt).s K kept) rfl (Sv.mono _ x3 z1)) ea_nil)) (al_p (fun _ z => z) (al_p (fun _ z => z) al_nil)) e5).le g_s) (fun w_v7 B6 H6 x6 w6 h8 => ?_)
        try dsimp only
        obtain ⟨⟨ys13, _⟩, e14, hm⟩ := ob hm
        try dsimp only at hm
        refine s_ret w6 (ev_lcF (R := (rT2 rInt (rLst rInt))) (oo := (fun (rr : Unit) => [])) (fun (pr : Int × (List Int)) (rr : Unit) => match rr with | () => some (true, ())) (fun (pr : Int × (List Int)) (rr : Unit) => match rr with | () => (cond (decide (pr.1 ∈ r4)) (some ([] : List Int)) ((m_arrow_ends (pr.2, r4)).bind fun r9 => some r9)).bind fun t11 => some (t11, ())) (lcT2 rInt (rLst rInt) K _ 3 4 [3, 4]) (ei_enum (ev_var (S := (rLst (rLst rInt)).s K book) rfl (Sv.mono _ x6 (Sv.mono _ x3 z0))) lp_s) e14 (lcT2_mono _ _ _ _ _ _ _) (lcT2_name rfl 3 4 [3, 4] (by intro x y; rfl)) (fun pr rr bb r1 σ2 B' pD acc ht eB ⟨va, vb, hσ, hxa, hxb⟩ => by cases ht; exact et_yes) (fun Hh pr rr yy r1 σ2 B' pD acc he eB ⟨va, vb, hσ, hxa, hxb⟩ => by subst hσ; obtain ⟨t11, e12, he⟩ := ob he; cases he; exact (ev_if (S := SN rInt K _ _) (et_test (ev_in (ev_var (S := rInt.s K pr.1) rfl hxa) (ev_var (S := (rLst rInt).s K r4) rfl (Sv.mono _ eB h8)) src_p)) (fun hc => by have e12 := it hc e12; have hq_ := Option.some.inj e12; subst hq_; exact (ev_lst (R := rInt) (xs := []) ea_nil (by decide))) (fun hc => by have e12 := ie hc e12; obtain ⟨r9, e10, e12⟩ := ob e12; have hq_ := Option.some.inj e12; subst hq_; exact ((ev_call0 (g := (pr.2, r4)) (ea_cons (ev_var (S := (rLst rInt).s K pr.2) rfl hxb) (ea_cons (ev_var (S := (rLst rInt).s K r4) rfl (Sv.mono _ eB h8)) ea_nil)) (al_p (fun _ z => z) (al_p (fun _ z => z) al_nil)) e10).le g_sn))))) (fun vv B15 H15 x15 w15 hv => ?_)
        cases hm
        exact k _ _ _ w15.st w15.ex (r_f w6 hv)
def m_lies_in : (List Int) × (List Int) → Option (Bool) := fun (places, others) =>
  (lcO (fun (place : Int) (rr : Unit) => match rr with | () => some (true, ())) (fun (place : Int) (rr : Unit) => match rr with | () => some ((decide (place ∈ others)), ())) places ()).bind fun (ys1, _) =>
  some (ys1.all id)
def p_lies_in (K : Fg) : Sp := Pr0 K (fun (g : (List Int) × (List Int)) => [(rLst rInt).s K g.1, (rLst rInt).s K g.2]) m_lies_in rBool
abbrev N_lies_in : List Str := ["places", "others", "place"]
theorem sc_lies_in : FnScope N_lies_in ["places", "others"] (defScope s_lies_in) := ⟨rfl, rfl, rfl, by decide +kernel, rfl, by decide +kernel, by decide +kernel⟩
theorem ok_lies_in {P : Program} {w : World} {K : Fg} {mg : Str → Option Value} {base : Heap} (T : Tx P K mg) {fd : FuncData} (F : FnP K "lies_in" s_lies_in (He.ga K "lies_in") fd) : FnOk P w K mg base (L2.CX P w) 1 (He.ga K "lies_in") fd ["places", "others"] (p_lies_in K) := by
  have sc := sc_lies_in
  refine F.ok sc (fun vs H Q E h => ?_) (fun cdv A outer s H vs Q E hr h => ?_)
  · obtain ⟨g, z, B, ss, _⟩ := h
    exact (Paired.length ss).trans rfl
  · obtain ⟨⟨places, others⟩, z, B, ss, ex, hm, k⟩ := h
    obtain ⟨v0, v1, rfl, z0, z1⟩ := pn2 ss
    refine ⟨_, (pss_one (ps_ret (pe_callB (call_ (K := K) rfl rfl) (by rfl) T.b_all (by decide +kernel) (pa_cons (pe_lc (own := [("place", 2)]) (g := (gName 2)) (by rfl) sc.nd (pi_list (pv 0)) (blkOk_by (own := [("place", 2)]) (N := N_lies_in) (sc := defScope s_lies_in) (by decide +kernel)) (fun _ _ _ _ _ => pg_name (i := 2) sc.nd rfl (Or.inl rfl)) (fun _ _ _ _ _ => pts_nil) (fun _ _ _ _ _ => (pe_cmpR (opin (K := K) rfl) (pv 2) (pv 1) (by rfl)))) pa_nil)))), ?_⟩
    have w := Wd.start (K := K) ex
    unfold m_lies_in at hm
    obtain ⟨⟨ys1, _⟩, e2, hm⟩ := ob hm
    try dsimp only at hm
    refine s_ret w (ev_all (ev_lc (R := rInt) (R' := rBool) (oo := (fun (rr : Unit) => [])) (fun (place : Int) (rr : Unit) => match rr with | () => some (true, ())) (fun (place : Int) (rr : Unit) => match rr with | () => some ((decide (place ∈ others)), ())) (lcT rInt K _ 2 [2]) (ei_list (ev_var (S := (rLst rInt).s K places) rfl z0)) e2 (lcT_mono _ _ _ _ _) (lcT_name rfl 2 [2] (by intro x; rfl)) (fun place rr bb r1 σ2 B' pD acc ht eB ⟨vx, hσ, hx⟩ => by cases ht; exact et_yes) (fun place rr yy r1 σ2 B' pD acc he eB ⟨vx, hσ, hx⟩ => by subst hσ; cases he; exact (ev_in (ev_var (S := rInt.s K place) rfl hx) (ev_var (S := (rLst rInt).s K others) rfl (Sv.mono _ eB z1)) src_p))) src_n) (fun vv B3 H3 x3 w3 hv => ?_)
    cases hm
    exact k _ _ _ w3.st w3.ex ((imm_flat _) _ _ _ _ _ hv)
def m_check_news : Int × (List Int) × (List (List Int)) → Option (Except Xc Unit) := fun (size, shut, known) =>
  cond (!decide ((known.length : Int) = size)) (some (.error (.one "BadNews" "place" (-(1 : Int))))) (finK (fun (_ : Unit) => (some (.ok ()))) (fun (tt : Except Xc Unit) => some tt) (forL (fun (pr4 : Int × (List Int)) (_ : Unit) => ((lenSetO pr4.2).bind fun t5 =>
  (cond (!decide (t5 = (pr4.2.length : Int))) (some true) ((m_lies_in (pr4.2, shut)).bind fun r7 => some (!r7))).bind fun b9 =>
  cond b9 (some (.rt (.error (.one "BadNews" "place" pr4.1)))) (some (.nx ())) : Option (Ctl Unit (Except Xc Unit)))) (enumL known) ()))
def p_check_news (K : Fg) : Sp := PrX K (He.ga K) (fun (g : Int × (List Int) × (List (List Int))) => [rInt.s K g.1, (rLst rInt).s K g.2.1, (rLst (rLst rInt)).s K g.2.2]) m_check_news rUnit
abbrev N_check_news : List Str := ["size", "shut", "known", "place", "row"]
theorem sc_check_news : FnScope N_check_news ["size", "shut", "known"] (defScope s_check_news) := ⟨rfl, rfl, rfl, by decide +kernel, rfl, by decide +kernel, by decide +kernel⟩
theorem ok_check_news {P : Program} {w : World} {K : Fg} {mg : Str → Option Value} {base : Heap} (T : Tx P K mg) {fd : FuncData} (F : FnP K "check_news" s_check_news (He.ga K "check_news") fd) : FnOk P w K mg base (L2.CX P w) 2 (He.ga K "check_news") fd ["size", "shut", "known"] (p_check_news K) := by
  obtain ⟨fI_BadNews, fd_BadNews, a1_BadNews, low_BadNews⟩ := T.BadNews.lo
  obtain ⟨fd_lies_in, F_lies_in⟩ := T.f_lies_in
  have b_lies_in : Binds K fd_lies_in ["places", "others"] [] := F_lies_in.bindsN fun _ _ _ _ _ _ us hl => match us, hl with | [_, _], _ => rfl
  have G_lies_in : FnOk P w K mg base (L2.CX P w) 1 (He.ga K "lies_in") fd_lies_in ["places", "others"] (p_lies_in K) := ok_lies_in T F_lies_in
  have sc := sc_check_news
  refine F.ok sc (fun vs H Q E h => ?_) (fun cdv A outer s H vs Q E hr h => ?_)
  · obtain ⟨g, z, B, ss, _⟩ := h
    exact (Paired.length ss).trans rfl
  · obtain ⟨⟨size, shut, known⟩, z, B, ss, ex, hm, k⟩ := h
    obtain ⟨v0, v1, v2, rfl, z0, z1, z2⟩ := pn3 ss
    have hr1 : Room 1 _ := hr.mono (by decide)
    have tk := takes_of (X := cxOf (L2.CX P w) P w K mg base N_check_news "check_news" (defScope s_check_news) (He.ga K "check_news") cdv A outer s H E) rfl rfl rfl rfl
    refine ⟨_, (pss_cons (ps_if (pt_cmpR op_ne (pe_callB (clen (K := K) rfl) (by rfl) T.b_len (by decide +kernel) (pa_cons (pv 2) pa_nil)) (pv 0) (nomark _)) (pss_one (ps_raise rfl tk (Xi.pmk_low low_BadNews hr1 (by rfl) T.BadNews.gl (pa_cons (pe_un un_neg pe_int) pa_nil)))) pss_nil) (pss_one (ps_for (passes_of rfl) rfl (pi_enum (by rfl) T.b_enumerate (pa_cons (pv 2) pa_nil)) (pgt (K := K) rfl rfl (pgs_cons (pg_name (i := 3) sc.nd rfl (Or.inl rfl)) (pgs_cons (pg_name (i := 4) sc.nd rfl (Or.inl rfl)) pgs_nil))) (pss_one (ps_if (PW.pt (pw_or (pt_cmpR op_ne (peLenSet (K := K) rfl (pv 4) (by rfl) (by rfl) T.b_len (by rfl) T.b_set) (pe_callB (clen (K := K) rfl) (by rfl) T.b_len (by decide +kernel) (pa_cons (pv 4) pa_nil)) (nomark _)) (pw_or1 (pt_not (pt_val (pe_call G_lies_in (hr.mono (by decide)) (by rfl) T.m_lies_in F_lies_in.kp b_lies_in .nil passL (pa_cons (pv 4) (pa_cons (pv 1) pa_nil)))))))) (pss_one (ps_raise rfl tk (Xi.pmk_low low_BadNews hr1 (by rfl) T.BadNews.gl (pa_cons (pv 3) pa_nil)))) pss_nil))))), ?_⟩
    have w := Wd.start (K := K) ex
    unfold m_check_news at hm
    try dsimp only
    refine s_if w (et_test (ev_neI (ev_len (ev_var (S := (rLst (rLst rInt)).s K known) rfl z2) src_p) (ev_var (S := rInt.s K size) rfl z0))) (fun hb B1 H1 x1 w1 => ?_) (fun hb B1 H1 x1 w1 => ?_)
    · have hm := it hb hm
      refine s_raise w1 (ea_cons (ev_neg ev_int) ea_nil) (fun cls d B2 H2 x2 w2 hx => ?_)
      cases hm
      exact k cls d _ _ w2.st w2.ex hx
    · have hm := ie hb hm
      refine s_for (R := (rT2 rInt (rLst rInt))) (oo := (fun (rr : Unit) => [])) (ρ0 := ()) (fun (pr4 : Int × (List Int)) (_ : Unit) => ((lenSetO pr4.2).bind fun t5 =>
(cond (!decide (t5 = (pr4.2.length : Int))) (some true) ((m_lies_in (pr4.2, shut)).bind fun r7 => some (!r7))).bind fun b9 =>
cond b9 (some (.rt (.error (.one "BadNews" "place" pr4.1)))) (some (.nx ())) : Option (Ctl Unit (Except Xc Unit)))) (fun (_ : Unit) σ' B' => ∃ o_3 : Option V, ∃ o_4 : Option V, σ' = [some v0, some v1, some v2, o_3, o_4]) (fun zz => finK _ _ zz = some _) w1 (ei_enum (ev_var (S := (rLst (rLst rInt)).s K known) rfl (Sv.mono _ x1 z2)) lp_s) (fun rr σ' B1 B2 e ⟨o_3, o_4, hσ⟩ => ⟨o_3, o_4, hσ⟩) (fun B2 e => ⟨_, _, rfl⟩) hm ?_ ?_
      · rintro pr4 rst rr vx3 σ' Bt3 Ht3 xt3 wt3 ⟨o_3t3, o_4t3, rfl⟩ hx3 hf N hN dn
        refine gt2 hx3 wt3.ex (fun va3 vb3 ha3 hb3 => ?_)
        dsimp only [gName]
        obtain ⟨ctl, hfx, hbk3, hrt3⟩ := forL_step hf
        have hm := hfx
        obtain ⟨t5, e6, hm⟩ := ob hm
        obtain ⟨b9, e10, hm⟩ := ob hm
        try dsimp only
        refine s_if wt3 (et_orO (b := b9) (et_test (ev_neI (ev_lenSet (ev_var (S := (rLst rInt).s K pr4.2) rfl hb3) src_p e6) (ev_len (ev_var (S := (rLst rInt).s K pr4.2) rfl hb3) src_p))) (fun hc => by have e10 := ie hc e10; obtain ⟨r7, e8, e10⟩ := ob e10; have hq_ := Option.some.inj e10; subst hq_; exact (et_not (et_B ((ev_call0 (g := (pr4.2, shut)) (ea_cons (ev_var (S := (rLst rInt).s K pr4.2) rfl hb3) (ea_cons (ev_var (S := (rLst rInt).s K shut) rfl (Sv.mono _ xt3 (Sv.mono _ x1 z1))) ea_nil)) (al_p (fun _ z => z) (al_p (fun _ z => z) al_nil)) e8).le g_s)))) (fun hc => by have e10 := it hc e10; cases e10; exact ⟨rfl, rfl⟩)) (fun hb B11 H11 x11 w11 => ?_) (fun hb B11 H11 x11 w11 => ?_)
        · have hm := it hb hm
          refine s_raise w11 (ea_cons (ev_var (S := rInt.s K pr4.1) rfl (Sv.mono _ x11 ha3)) ea_nil) (fun cls d B12 H12 x12 w12 hx => ?_)
          cases hm
          replace hm := hrt3 _ rfl
          cases hm
          exact k cls d _ _ w12.st w12.ex hx
        · have hm := ie hb hm
          have hq_ := Option.some.inj hm
          subst hq_
          exact hN () _ _ _ hfx x11 w11 ⟨_, _, rfl⟩
      · rintro rr σ' B13 H13 x13 w13 ⟨o_3k14, o_4k14, rfl⟩ hm
        try dsimp only
        replace hm := finK_nx hm
        cases hm
        exact k _ _ _ w13.st w13.ex rfl
def m_travel : (List (List Int)) × (List Int) × (List (List Int)) × Int → Option (Except Xc (List Int)) := fun (book, shut, known, place) =>
  (m_check_book book).bind fun rx => match rx with
  | .error xe => some (.error xe)
  | .ok r1 => ((m_check_places ((book.length : Int), shut)).bind fun rx => match rx with
  | .error xe => some (.error xe)
  | .ok r4 => ((m_check_news ((book.length : Int), shut, known)).bind fun rx => match rx with
  | .error xe => some (.error xe)
  | .ok r7 => ((m_check_places ((book.length : Int), [place])).bind fun rx => match rx with
  | .error xe => some (.error xe)
  | .ok r10 => (finK (fun (way16 : (List Int)) => (some (.ok way16))) (fun (_ : Unit) => none) (whF (fun (way16 : (List Int)) => ((atI way16 (-(1 : Int))).bind fun t18 =>
  cond (decide (t18 ∈ shut)) ((atI way16 (-(1 : Int))).bind fun t21 =>
  (atI book t21).bind fun t26 =>
  (atI known t21).bind fun t28 =>
  (catO t28 way16).bind fun t32 =>
  (m_first_outside (t26, t32)).bind fun r33 =>
  (appO way16 r33).bind fun way35 =>
  some (some (.nx way35))) (some none) : Option (Option (Ctl (List Int) Unit)))) (book.length + 1) [place])))))
def p_travel (K : Fg) : Sp := PrX K (He.ga K) (fun (g : (List (List Int)) × (List Int) × (List (List Int)) × Int) => [(rLst (rLst rInt)).s K g.1, (rLst rInt).s K g.2.1, (rLst (rLst rInt)).s K g.2.2.1, rInt.s K g.2.2.2]) m_travel (rLst rInt)
abbrev N_travel : List Str := ["book", "shut", "known", "place", "way", "here"]
theorem sc_travel : FnScope N_travel ["book", "shut", "known", "place"] (defScope s_travel) := ⟨rfl, rfl, rfl, by decide +kernel, rfl, by decide +kernel, by decide +kernel⟩
theorem ok_travel {P : Program} {w : World} {K : Fg} {mg : Str → Option Value} {base : Heap} (T : Tx P K mg) {fd : FuncData} (F : FnP K "travel" s_travel (He.ga K "travel") fd) : FnOk P w K mg base (L2.CX P w) 3 (He.ga K "travel") fd ["book", "shut", "known", "place"] (p_travel K) := by
  obtain ⟨fd_check_book, F_check_book⟩ := T.f_check_book
  have b_check_book : Binds K fd_check_book ["book"] [] := F_check_book.bindsN fun _ _ _ _ _ _ us hl => match us, hl with | [_], _ => rfl
  have G_check_book : FnOk P w K mg base (L2.CX P w) 2 (He.ga K "check_book") fd_check_book ["book"] (p_check_book K) := ok_check_book T F_check_book
  obtain ⟨fd_check_news, F_check_news⟩ := T.f_check_news
  have b_check_news : Binds K fd_check_news ["size", "shut", "known"] [] := F_check_news.bindsN fun _ _ _ _ _ _ us hl => match us, hl with | [_, _, _], _ => rfl
  have G_check_news : FnOk P w K mg base (L2.CX P w) 2 (He.ga K "check_news") fd_check_news ["size", "shut", "known"] (p_check_news K) := ok_check_news T F_check_news
  obtain ⟨fd_check_places, F_check_places⟩ := T.f_check_places
  have b_check_places : Binds K fd_check_places ["size", "places"] [] := F_check_places.bindsN fun _ _ _ _ _ _ us hl => match us, hl with | [_, _], _ => rfl
  have G_check_places : FnOk P w K mg base (L2.CX P w) 2 (He.ga K "check_places") fd_check_places ["size", "places"] (p_check_places K) := ok_check_places T F_check_places
  obtain ⟨fd_first_outside, F_first_outside⟩ := T.f_first_outside
  have b_first_outside : Binds K fd_first_outside ["card", "listed"] [] := F_first_outside.bindsN fun _ _ _ _ _ _ us hl => match us, hl with | [_, _], _ => rfl
  have G_first_outside : FnOk P w K mg base (L2.CX P w) 1 (He.ga K "first_outside") fd_first_outside ["card", "listed"] (p_first_outside K) := ok_first_outside T F_first_outside
  have sc := sc_travel
  refine F.ok sc (fun vs H Q E h => ?_) (fun cdv A outer s H vs Q E hr h => ?_)
  · obtain ⟨g, z, B, ss, _⟩ := h
    exact (Paired.length ss).trans rfl
  · obtain ⟨⟨book, shut, known, place⟩, z, B, ss, ex, hm, k⟩ := h
    obtain ⟨v0, v1, v2, v3, rfl, z0, z1, z2, z3⟩ := pn4 ss
    have tk := takes_of (X := cxOf (L2.CX P w) P w K mg base N_travel "travel" (defScope s_travel) (He.ga K "travel") cdv A outer s H E) rfl rfl rfl rfl
    refine ⟨_, (pss_cons (ps_expr (pe_call G_check_book (hr.mono (by decide)) (by rfl) T.m_check_book F_check_book.kp b_check_book .nil (passes_call tk fun _ _ _ _ h => h) (pa_cons (pv 0) pa_nil))) (pss_cons (ps_expr (pe_call G_check_places (hr.mono (by decide)) (by rfl) T.m_check_places F_check_places.kp b_check_places .nil (passes_call tk fun _ _ _ _ h => h) (pa_cons (pe_callB (clen (K := K) rfl) (by rfl) T.b_len (by decide +kernel) (pa_cons (pv 0) pa_nil)) (pa_cons (pv 1) pa_nil)))) (pss_cons (ps_expr (pe_call G_check_news (hr.mono (by decide)) (by rfl) T.m_check_news F_check_news.kp b_check_news .nil (passes_call tk fun _ _ _ _ h => h) (pa_cons (pe_callB (clen (K := K) rfl) (by rfl) T.b_len (by decide +kernel) (pa_cons (pv 0) pa_nil)) (pa_cons (pv 1) (pa_cons (pv 2) pa_nil))))) (pss_cons (ps_expr (pe_call G_check_places (hr.mono (by decide)) (by rfl) T.m_check_places F_check_places.kp b_check_places .nil (passes_call tk fun _ _ _ _ h => h) (pa_cons (pe_callB (clen (K := K) rfl) (by rfl) T.b_len (by decide +kernel) (pa_cons (pv 0) pa_nil)) (pa_cons (pe_lst (pa_cons (pv 3) pa_nil)) pa_nil)))) (pss_cons (ps_set (i := 4) sc.nd rfl (Or.inl rfl) (pe_lst (pa_cons (pv 3) pa_nil))) (pss_cons (ps_while (passes_of rfl) (pt_cmpR (opin (K := K) rfl) (pe_ix (ixl (K := K) rfl) (pv 4) (pe_un un_neg pe_int) (fun _ _ => rfl)) (pv 1) (by rfl)) (pss_cons (ps_set (i := 5) sc.nd rfl (Or.inl rfl) (pe_ix (ixl (K := K) rfl) (pv 4) (pe_un un_neg pe_int) (fun _ _ => rfl))) (pss_one (ps_expr (pe_bm PySem.F.plainAttrs_list PySem.F.slot_list_append PySem.F.type_list_append mt_append (pv 4) (pa_cons (pe_call G_first_outside (hr.mono (by decide)) (by rfl) T.m_first_outside F_first_outside.kp b_first_outside .nil passL (pa_cons (pe_ix (ixl (K := K) rfl) (pv 0) (pv 5) (fun _ _ => rfl)) (pa_cons (pe_op op_cat (pe_ix (ixl (K := K) rfl) (pv 2) (pv 5) (fun _ _ => rfl)) (pv 4)) pa_nil))) pa_nil)))))) (pss_one (ps_ret (pv 4))))))))), ?_⟩
    have w := Wd.start (K := K) ex
    unfold m_travel at hm
    obtain ⟨r1, e2, hm⟩ := ob hm
    cases r1 with
    | error r1 =>
      refine callX w (ea_cons (ev_var (S := (rLst (rLst rInt)).s K book) rfl z0) ea_nil) (al_p (fun _ z => z) al_nil) e2 (fun cls d B3 H3 x3 w3 hx => ?_)
      cases hm
      exact k cls d _ _ w3.st w3.ex hx
    | ok r1 =>
      refine s_drop w (ev_callXok (g := book) (ea_cons (ev_var (S := (rLst (rLst rInt)).s K book) rfl z0) ea_nil) (al_p (fun _ z => z) al_nil) e2) (fun B3 H3 x3 w3 => ?_)
      try dsimp only
      obtain ⟨r4, e5, hm⟩ := ob hm
      cases r4 with
      | error r4 =>
        refine callX w3 (ea_cons (ev_len (ev_var (S := (rLst (rLst rInt)).s K book) rfl (Sv.mono _ x3 z0)) src_p) (ea_cons (ev_var (S := (rLst rInt).s K shut) rfl (Sv.mono _ x3 z1)) ea_nil)) (al_p (fun _ z => z) (al_p (fun _ z => z) al_nil)) e5 (fun cls d B6 H6 x6 w6 hx => ?_)
        cases hm
        exact k cls d _ _ w6.st w6.ex hx
      | ok r4 =>
        refine s_drop w3 (ev_callXok (g := ((book.length : Int), shut)) (ea_cons (ev_len (ev_var (S := (rLst (rLst rInt)).s K book) rfl (Sv.mono _ x3 z0)) src_p) (ea_cons (ev_var (S := (rLst rInt).s K shut) rfl (Sv.mono _ x3 z1)) ea_nil)) (al_p (fun _ z => z) (al_p (fun _ z => z) al_nil)) e5) (fun B6 H6 x6 w6 => ?_)
        try dsimp only
        obtain ⟨r7, e8, hm⟩ := ob hm
        cases r7 with
        | error r7 =>
          refine callX w6 (ea_cons (ev_len (ev_var (S := (rLst (rLst rInt)).s K book) rfl (Sv.mono _ x6 (Sv.mono _ x3 z0))) src_p) (ea_cons (ev_var (S := (rLst rInt).s K shut) rfl (Sv.mono _ x6 (Sv.mono _ x3 z1))) (ea_cons (ev_var (S := (rLst (rLst rInt)).s K known) rfl (Sv.mono _ x6 (Sv.mono _ x3 z2))) ea_nil))) (al_p (fun _ z => z) (al_p (fun _ z => z) (al_p (fun _ z => z) al_nil))) e8 (fun cls d B9 H9 x9 w9 hx => ?_)
          cases hm
          exact k cls d _ _ w9.st w9.ex hx
        | ok r7 =>
          refine s_drop w6 (ev_callXok (g := ((book.length : Int), shut, known)) (ea_cons (ev_len (ev_var (S := (rLst (rLst rInt)).s K book) rfl (Sv.mono _ x6 (Sv.mono _ x3 z0))) src_p) (ea_cons (ev_var (S := (rLst rInt).s K shut) rfl (Sv.mono _ x6 (Sv.mono _ x3 z1))) (ea_cons (ev_var (S := (rLst (rLst rInt)).s K known) rfl (Sv.mono _ x6 (Sv.mono _ x3 z2))) ea_nil))) (al_p (fun _ z => z) (al_p (fun _ z => z) (al_p (fun _ z => z) al_nil))) e8) (fun B9 H9 x9 w9 => ?_)
          try dsimp only
          obtain ⟨r10, e11, hm⟩ := ob hm
          cases r10 with
          | error r10 =>
            refine callX w9 (ea_cons (ev_len (ev_var (S := (rLst (rLst rInt)).s K book) rfl (Sv.mono _ x9 (Sv.mono _ x6 (Sv.mono _ x3 z0)))) src_p) (ea_cons (ev_lst (R := rInt) (xs := [place]) (ea_cons (ev_var (S := rInt.s K place) rfl (Sv.mono _ x9 (Sv.mono _ x6 (Sv.mono _ x3 z3)))) ea_nil) (by show 1 ≤ 1000; decide)) ea_nil)) (al_p (fun _ z => z) (al_le sn_s (fun _ z => z) al_nil)) e11 (fun cls d B12 H12 x12 w12 hx => ?_)
            cases hm
            exact k cls d _ _ w12.st w12.ex hx
          | ok r10 =>
            refine s_drop w9 (ev_callXok (g := ((book.length : Int), [place])) (ea_cons (ev_len (ev_var (S := (rLst (rLst rInt)).s K book) rfl (Sv.mono _ x9 (Sv.mono _ x6 (Sv.mono _ x3 z0)))) src_p) (ea_cons (ev_lst (R := rInt) (xs := [place]) (ea_cons (ev_var (S := rInt.s K place) rfl (Sv.mono _ x9 (Sv.mono _ x6 (Sv.mono _ x3 z3)))) ea_nil) (by show 1 ≤ 1000; decide)) ea_nil)) (al_p (fun _ z => z) (al_le sn_s (fun _ z => z) al_nil)) e11) (fun B12 H12 x12 w12 => ?_)
            try dsimp only
            refine s_own w12 (ev_lst (R := rInt) (xs := [place]) (ea_cons (ev_var (S := rInt.s K place) rfl (Sv.mono _ x12 (Sv.mono _ x9 (Sv.mono _ x6 (Sv.mono _ x3 z3))))) ea_nil) (by show 1 ≤ 1000; decide)) (imm_flat _) trivial (fun q14 B13 H13 x13 n15 w13 => ?_)
            refine s_while (oo := (fun (rr : (List Int)) => [CL rInt K rr])) (ρ0 := [place]) (fuel := book.length + 1) (fun (way16 : (List Int)) => ((atI way16 (-(1 : Int))).bind fun t18 =>
cond (decide (t18 ∈ shut)) ((atI way16 (-(1 : Int))).bind fun t21 =>
(atI book t21).bind fun t26 =>
(atI known t21).bind fun t28 =>
(catO t28 way16).bind fun t32 =>
(m_first_outside (t26, t32)).bind fun r33 =>
(appO way16 r33).bind fun way35 =>
some (some (.nx way35))) (some none) : Option (Option (Ctl (List Int) Unit)))) (fun (rr : (List Int)) σ' B' => ∃ o_5 : Option V, σ' = [some v0, some v1, some v2, some v3, some (.ref q14), o_5]) (fun zz => finK _ _ zz = some _) w13 ⟨_, rfl⟩ hm (fun h => nomatch h) ?_ ?_
            · rintro way16 σ' B38 H38 x38 w38 ⟨o_5k39, rfl⟩ hm
              try dsimp only
              replace hm := finK_nx hm
              refine s_ret w38 (ev_var (S := SA q14) rfl rfl) (fun vv B40 H40 x40 w40 hv => ?_)
              cases (show vv = _ from hv)
              cases hm
              obtain ⟨Bz, xz, w41, rz⟩ := r_o w40 n15 (imm_flat _)
              exact k _ _ _ w41.st w41.ex rz
            · rintro nn way16 σ' Bt17 Ht17 xt17 wt17 ⟨o_5t17, rfl⟩ hf
              obtain ⟨ctl, hfx, hnn, hbk17, hrt17⟩ := whF_step hf
              have hm := hfx
              obtain ⟨t18, e19, hm⟩ := ob hm
              refine ⟨_, _, (et_test (ev_in (ev_ix (ev_var (S := SA q14) rfl rfl) (ev_neg ev_int) (src_o (R := rInt) (xs := way16) 0 rfl rfl) e19) (ev_var (S := (rLst rInt).s K shut) rfl (Sv.mono _ xt17 (Sv.mono _ x13 (Sv.mono _ x12 (Sv.mono _ x9 (Sv.mono _ x6 (Sv.mono _ x3 z1))))))) src_p)), fun hb B20 H20 x20 w20 N hN => ?_, fun hb => ?_⟩
              · have hm := it hb hm
                obtain ⟨t21, e22, hm⟩ := ob hm
                refine s_asg w20 (ev_ix (ev_var (S := SA q14) rfl rfl) (ev_neg ev_int) (src_o (R := rInt) (xs := way16) 0 rfl rfl) e22) (fun w_v24 B23 H23 x23 w23 h25 => ?_)
                obtain ⟨t26, e27, hm⟩ := ob hm
                obtain ⟨t28, e29, hm⟩ := ob hm
                obtain ⟨t32, e30, hm⟩ := ob hm
                obtain ⟨r33, e34, hm⟩ := ob hm
                obtain ⟨way35, e36, hm⟩ := ob hm
                refine s_drop w23 (ev_app 0 rfl (ev_var (S := SA q14) rfl rfl) rfl ((ev_call0 (g := (t26, t32)) (ea_cons (ev_ix (ev_var (S := (rLst (rLst rInt)).s K book) rfl (Sv.mono _ x23 (Sv.mono _ x20 (Sv.mono _ xt17 (Sv.mono _ x13 (Sv.mono _ x12 (Sv.mono _ x9 (Sv.mono _ x6 (Sv.mono _ x3 z0))))))))) (ev_var (S := rInt.s K t21) rfl h25) src_p e27) (ea_cons (ev_catO (ev_ix (ev_var (S := (rLst (rLst rInt)).s K known) rfl (Sv.mono _ x23 (Sv.mono _ x20 (Sv.mono _ xt17 (Sv.mono _ x13 (Sv.mono _ x12 (Sv.mono _ x9 (Sv.mono _ x6 (Sv.mono _ x3 z2))))))))) (ev_var (S := rInt.s K t21) rfl h25) src_p e29) (ev_var (S := SA q14) rfl rfl) src_p (src_o (R := rInt) (xs := way16) 0 rfl rfl) e30) ea_nil)) (al_p (fun _ z => z) (al_le sn_s (fun _ z => z) al_nil)) e34).le g_s) rfl e36) (fun B37 H37 x37 w37 => ?_)
                have hq_ := Option.some.inj hm
                subst hq_
                exact hN way35 _ _ _ hfx ((x20.trans x23).trans x37) w37 ⟨_, rfl⟩
              · have hm := ie hb hm
                cases hm
                exact ⟨way16, rfl, hnn rfl, fun B1 e => ⟨_, rfl⟩⟩
def m__law_seed : (List Int) × Int → Option (List Int) := fun (script, x_at) =>
  (cond (decide ((0 : Int) < (script.length : Int))) ((atI script (0 : Int)).bind fun t6 =>
  (modO (if t6 < 0 then -t6 else t6) (998244353 : Int)).bind fun t8 =>
  some t8) (some (7 : Int))).bind fun base5 =>
  cond (decide ((script.length : Int) ≤ x_at)) ((mulO base5 (29 : Int)).bind fun t16 =>
  (mulO x_at (1213 : Int)).bind fun t18 =>
  some [(0 : Int), ((t16 + t18) + (5 : Int)), (0 : Int)]) ((atI script x_at).bind fun t21 =>
  cond (decide (((10 : Int) ^ (18 : Int).toNat) ≤ (if t21 < 0 then -t21 else t21))) ((modO (if t21 < 0 then -t21 else t21) (998244353 : Int)).bind fun t27 =>
  some [(if t21 < 0 then -t21 else t21), t27, (0 : Int)]) ((modO (if t21 < 0 then -t21 else t21) (998244353 : Int)).bind fun t30 =>
  (mulO x_at (131 : Int)).bind fun t32 =>
  some [(0 : Int), (t30 + t32), (0 : Int)]))
def p__law_seed (K : Fg) : Sp := Pr0 K (fun (g : (List Int) × Int) => [rScr.s K g.1, rInt.s K g.2]) m__law_seed (rLst rInt)
abbrev N__law_seed : List Str := ["script", "at", "base", "cell"]
theorem sc__law_seed : FnScope N__law_seed ["script", "at"] (defScope s__law_seed) := ⟨rfl, rfl, rfl, by decide +kernel, rfl, by decide +kernel, by decide +kernel⟩
theorem ok__law_seed {P : Program} {w : World} {K : Fg} {mg : Str → Option Value} {base : Heap} (T : Tx P K mg) {fd : FuncData} (F : FnP K "_law_seed" s__law_seed (He.ga K "_law_seed") fd) : FnOk P w K mg base (L2.CX P w) 1 (He.ga K "_law_seed") fd ["script", "at"] (p__law_seed K) := by
  have sc := sc__law_seed
  refine F.ok sc (fun vs H Q E h => ?_) (fun cdv A outer s H vs Q E hr h => ?_)
  · obtain ⟨g, z, B, ss, _⟩ := h
    exact (Paired.length ss).trans rfl
  · obtain ⟨⟨script, x_at⟩, z, B, ss, ex, hm, k⟩ := h
    obtain ⟨v0, v1, rfl, z0, z1⟩ := pn2 ss
    refine ⟨_, (pss_cons (ps_set (i := 2) sc.nd rfl (Or.inl rfl) pe_int) (pss_cons (ps_if (pt_cmpR op_gt (pe_callB (clen (K := K) rfl) (by rfl) T.b_len (by decide +kernel) (pa_cons (pv 0) pa_nil)) pe_int (nomark _)) (pss_one (ps_set (i := 2) sc.nd rfl (Or.inl rfl) (pe_op op_modN (pe_callTy call_int1 (by rfl) T.b_int (by decide +kernel) (pa_cons (pe_callB call_abs (by rfl) T.b_abs (by decide +kernel) (pa_cons (pe_ix (ixl (K := K) rfl) (pv 0) pe_int (fun _ _ => rfl)) pa_nil)) pa_nil)) pe_int))) pss_nil) (pss_cons (ps_if (pt_cmpR op_ge (pv 1) (pe_callB (clen (K := K) rfl) (by rfl) T.b_len (by decide +kernel) (pa_cons (pv 0) pa_nil)) (nomark _)) (pss_one (ps_ret (pe_lst (pa_cons pe_int (pa_cons (pe_op op_add (pe_op op_add (pe_op op_mul (pv 2) pe_int) (pe_op op_mul (pv 1) pe_int)) pe_int) (pa_cons pe_int pa_nil)))))) pss_nil) (pss_cons (ps_set (i := 3) sc.nd rfl (Or.inl rfl) (pe_callB call_abs (by rfl) T.b_abs (by decide +kernel) (pa_cons (pe_ix (ixl (K := K) rfl) (pv 0) (pv 1) (fun _ _ => rfl)) pa_nil))) (pss_cons (ps_if (pt_cmpR op_ge (pv 3) (pe_op op_pow pe_int pe_int) (nomark _)) (pss_one (ps_ret (pe_lst (pa_cons (pv 3) (pa_cons (pe_op op_modN (pe_callTy call_int1 (by rfl) T.b_int (by decide +kernel) (pa_cons (pv 3) pa_nil)) pe_int) (pa_cons pe_int pa_nil)))))) pss_nil) (pss_one (ps_ret (pe_lst (pa_cons pe_int (pa_cons (pe_op op_add (pe_op op_modN (pe_callTy call_int1 (by rfl) T.b_int (by decide +kernel) (pa_cons (pv 3) pa_nil)) pe_int) (pe_op op_mul (pv 1) pe_int)) (pa_cons pe_int pa_nil))))))))))), ?_⟩
    have w := Wd.start (K := K) ex
    unfold m__law_seed at hm
    refine s_asg w ev_int (fun w_v2 B1 H1 x1 w1 h3 => ?_)
    obtain ⟨rj, hA35, hm⟩ := ob hm
    refine s_ifJ (ks2 := []) (oo := (fun (rr : Int) => [])) (fun (rr : Int) σ' B' => ∃ v_2 : V, ∃ o_3 : Option V, σ' = [some v0, some v1, some v_2, o_3] ∧ (rInt.s K rr).p v_2 B') (fun rr => rr = rj) w1 (et_test (ev_gt (ev_lenZ (ev_var (S := rScr.s K script) rfl (Sv.mono _ x1 z0))) ev_int)) ?_ (fun hb B4 H4 x4 w4 N hN => ?_) (fun hb B4 H4 x4 w4 N hN => ?_)
    · rintro base5 σ' B13 H13 x13 w13 ⟨v_2k14, o_3k14, rfl, hj0k14⟩ hq
      subst hq
      try dsimp only
      try dsimp only
      refine s_if w13 (et_test (ev_ge (ev_var (S := rInt.s K x_at) rfl (Sv.mono _ x13 (Sv.mono _ x1 z1))) (ev_lenZ (ev_var (S := rScr.s K script) rfl (Sv.mono _ x13 (Sv.mono _ x1 z0)))))) (fun hb B15 H15 x15 w15 => ?_) (fun hb B15 H15 x15 w15 => ?_)
      · have hm := it hb hm
        obtain ⟨t16, e17, hm⟩ := ob hm
        obtain ⟨t18, e19, hm⟩ := ob hm
        refine s_ret w15 (ev_lst (R := rInt) (xs := [(0 : Int), ((t16 + t18) + (5 : Int)), (0 : Int)]) (ea_cons ev_int (ea_cons (ev_add (ev_add (ev_mul (ev_var (S := rInt.s K base5) rfl (Sv.mono _ x15 hj0k14)) ev_int e17) (ev_mul (ev_var (S := rInt.s K x_at) rfl (Sv.mono _ x15 (Sv.mono _ x13 (Sv.mono _ x1 z1)))) ev_int e19)) ev_int) (ea_cons ev_int ea_nil))) (by show 3 ≤ 1000; decide)) (fun vv B20 H20 x20 w20 hv => ?_)
        cases hm
        exact k _ _ _ w20.st w20.ex (r_n w15 (imm_flat _) hv)
      · have hm := ie hb hm
        obtain ⟨t21, e22, hm⟩ := ob hm
        refine s_asg w15 (ev_abs (ev_ixZ (ev_var (S := rScr.s K script) rfl (Sv.mono _ x15 (Sv.mono _ x13 (Sv.mono _ x1 z0)))) (ev_var (S := rInt.s K x_at) rfl (Sv.mono _ x15 (Sv.mono _ x13 (Sv.mono _ x1 z1)))) e22)) (fun w_v24 B23 H23 x23 w23 h25 => ?_)
        try dsimp only
        refine s_if w23 (et_test (ev_ge (ev_var (S := rInt.s K (if t21 < 0 then -t21 else t21)) rfl h25) (ev_pow ev_int ev_int (by decide)))) (fun hb B26 H26 x26 w26 => ?_) (fun hb B26 H26 x26 w26 => ?_)
        · have hm := it hb hm
          obtain ⟨t27, e28, hm⟩ := ob hm
          refine s_ret w26 (ev_lst (R := rInt) (xs := [(if t21 < 0 then -t21 else t21), t27, (0 : Int)]) (ea_cons (ev_var (S := rInt.s K (if t21 < 0 then -t21 else t21)) rfl (Sv.mono _ x26 h25)) (ea_cons (ev_mod (ev_int1 (ev_var (S := rInt.s K (if t21 < 0 then -t21 else t21)) rfl (Sv.mono _ x26 h25))) ev_int e28) (ea_cons ev_int ea_nil))) (by show 3 ≤ 1000; decide)) (fun vv B29 H29 x29 w29 hv => ?_)
          cases hm
          exact k _ _ _ w29.st w29.ex (r_n w26 (imm_flat _) hv)
        · have hm := ie hb hm
          obtain ⟨t30, e31, hm⟩ := ob hm
          obtain ⟨t32, e33, hm⟩ := ob hm
          refine s_ret w26 (ev_lst (R := rInt) (xs := [(0 : Int), (t30 + t32), (0 : Int)]) (ea_cons ev_int (ea_cons (ev_add (ev_mod (ev_int1 (ev_var (S := rInt.s K (if t21 < 0 then -t21 else t21)) rfl (Sv.mono _ x26 h25))) ev_int e31) (ev_mul (ev_var (S := rInt.s K x_at) rfl (Sv.mono _ x26 (Sv.mono _ x23 (Sv.mono _ x15 (Sv.mono _ x13 (Sv.mono _ x1 z1)))))) ev_int e33)) (ea_cons ev_int ea_nil))) (by show 3 ≤ 1000; decide)) (fun vv B34 H34 x34 w34 hv => ?_)
          cases hm
          exact k _ _ _ w34.st w34.ex (r_n w26 (imm_flat _) hv)
    · have hm := it hb hA35
      obtain ⟨t6, e7, hm⟩ := ob hm
      obtain ⟨t8, e9, hm⟩ := ob hm
      refine s_asg w4 (ev_mod (ev_int1 (ev_abs (ev_ixZ (ev_var (S := rScr.s K script) rfl (Sv.mono _ x4 (Sv.mono _ x1 z0))) ev_int e7))) ev_int e9) (fun w_v11 B10 H10 x10 w10 h12 => ?_)
      have hq_ := Option.some.inj hm
      subst hq_
      exact hN t8 _ _ _ (x4.trans x10) w10 ⟨w_v11, _, rfl, h12⟩ rfl
    · have hm := ie hb hA35
      have hq_ := Option.some.inj hm
      subst hq_
      exact hN (7 : Int) _ _ _ x4 w4 ⟨w_v2, _, rfl, (Sv.mono _ x4 h3)⟩ rfl
def m__law_pick : (List Int) × Int → Option (Int × (List Int)) := fun (state, many) =>
  (atI state (0 : Int)).bind fun t1 =>
  cond (decide ((0 : Int) < t1)) ((atI state (0 : Int)).bind fun t4 =>
  (modO t4 many).bind fun t6 =>
  (atI state (0 : Int)).bind fun t11 =>
  (divO t11 many).bind fun t13 =>
  (setO state (0 : Int) t13).bind fun state15 =>
  some (t6, state15)) ((atI state (2 : Int)).bind fun t19 =>
  (setO state (2 : Int) (t19 + (1 : Int))).bind fun state21 =>
  (atI state21 (1 : Int)).bind fun t24 =>
  (mulO t24 (69069 : Int)).bind fun t26 =>
  (atI state21 (2 : Int)).bind fun t28 =>
  (mulO t28 (40503 : Int)).bind fun t30 =>
  (modO ((t26 + t30) + (13 : Int)) (2147483629 : Int)).bind fun t32 =>
  (mulO t32 t32).bind fun t37 =>
  (atI state21 (2 : Int)).bind fun t39 =>
  (mulO t39 (30269 : Int)).bind fun t41 =>
  (modO ((t37 + t41) + (3 : Int)) (2147483587 : Int)).bind fun t43 =>
  (mulO t43 t43).bind fun t48 =>
  (mulO t32 (7 : Int)).bind fun t50 =>
  (modO ((t48 + t50) + (1 : Int)) (2147483579 : Int)).bind fun t52 =>
  (divO t52 (16 : Int)).bind fun t57 =>
  (modO t57 many).bind fun t59 =>
  some (t59, state21))
def p__law_pick (K : Fg) : Sp := Pr1 K (fun (g : (List Int) × Int) p => [SA p, rInt.s K g.2]) (fun g => CL rInt K g.1) m__law_pick (fun e => CL rInt K e) rInt
abbrev N__law_pick : List Str := ["state", "many", "digit", "one", "two", "three"]
theorem sc__law_pick : FnScope N__law_pick ["state", "many"] (defScope s__law_pick) := ⟨rfl, rfl, rfl, by decide +kernel, rfl, by decide +kernel, by decide +kernel⟩
theorem ok__law_pick {P : Program} {w : World} {K : Fg} {mg : Str → Option Value} {base : Heap} (T : Tx P K mg) {fd : FuncData} (F : FnP K "_law_pick" s__law_pick (He.ga K "_law_pick") fd) : FnOk P w K mg base (L2.CX P w) 1 (He.ga K "_law_pick") fd ["state", "many"] (p__law_pick K) := by
  have sc := sc__law_pick
  refine F.ok sc (fun vs H Q E h => ?_) (fun cdv A outer s H vs Q E hr h => ?_)
  · obtain ⟨g, p, z, B, o, ss, _⟩ := h
    exact (Paired.length ss).trans rfl
  · obtain ⟨⟨state, many⟩, p0, z, B, o, ss, ex, h1, h2, h3, h4, hm, k⟩ := h
    obtain ⟨v0, v1, rfl, z0, z1⟩ := pn2 ss
    cases (show _ = V.ref p0 from z0)
    refine ⟨_, (pss_cons (ps_if (pt_cmpR op_gt (pe_ix (ixl (K := K) rfl) (pv 0) pe_int (fun _ _ => rfl)) pe_int (nomark _)) (pss_cons (ps_set (i := 2) sc.nd rfl (Or.inl rfl) (pe_op op_modN (pe_callTy call_int1 (by rfl) T.b_int (by decide +kernel) (pa_cons (pe_ix (ixl (K := K) rfl) (pv 0) pe_int (fun _ _ => rfl)) pa_nil)) (pv 1))) (pss_cons (ps_asg (pe_op op_fdivN (pe_ix (ixl (K := K) rfl) (pv 0) pe_int (fun _ _ => rfl)) (pv 1)) (pg_sub (pv 0) pe_int set_list)) (pss_one (ps_ret (pv 2))))) pss_nil) (pss_cons (ps_asg (pe_op op_add (pe_ix (ixl (K := K) rfl) (pv 0) pe_int (fun _ _ => rfl)) pe_int) (pg_sub (pv 0) pe_int set_list)) (pss_cons (ps_set (i := 3) sc.nd rfl (Or.inl rfl) (pe_op op_modN (pe_callTy call_int1 (by rfl) T.b_int (by decide +kernel) (pa_cons (pe_op op_add (pe_op op_add (pe_op op_mul (pe_ix (ixl (K := K) rfl) (pv 0) pe_int (fun _ _ => rfl)) pe_int) (pe_op op_mul (pe_ix (ixl (K := K) rfl) (pv 0) pe_int (fun _ _ => rfl)) pe_int)) pe_int) pa_nil)) pe_int)) (pss_cons (ps_set (i := 4) sc.nd rfl (Or.inl rfl) (pe_op op_modN (pe_callTy call_int1 (by rfl) T.b_int (by decide +kernel) (pa_cons (pe_op op_add (pe_op op_add (pe_op op_mul (pv 3) (pv 3)) (pe_op op_mul (pe_ix (ixl (K := K) rfl) (pv 0) pe_int (fun _ _ => rfl)) pe_int)) pe_int) pa_nil)) pe_int)) (pss_cons (ps_set (i := 5) sc.nd rfl (Or.inl rfl) (pe_op op_modN (pe_callTy call_int1 (by rfl) T.b_int (by decide +kernel) (pa_cons (pe_op op_add (pe_op op_add (pe_op op_mul (pv 4) (pv 4)) (pe_op op_mul (pv 3) pe_int)) pe_int) pa_nil)) pe_int)) (pss_one (ps_ret (pe_op op_modN (pe_callTy call_int1 (by rfl) T.b_int (by decide +kernel) (pa_cons (pe_op op_fdivN (pv 5) pe_int) pa_nil)) (pv 1))))))))), ?_⟩
    have w := Wd.start1 (K := K) ex h1 h2 h3 h4
    unfold m__law_pick at hm
    obtain ⟨t1, e2, hm⟩ := ob hm
    try dsimp only
    refine s_if w (et_test (ev_gt (ev_ix (ev_var (S := SA p0) rfl rfl) ev_int (src_o (R := rInt) (xs := state) 0 rfl rfl) e2) ev_int)) (fun hb B3 H3 x3 w3 => ?_) (fun hb B3 H3 x3 w3 => ?_)
    · have hm := it hb hm
      obtain ⟨t4, e5, hm⟩ := ob hm
      obtain ⟨t6, e7, hm⟩ := ob hm
      refine s_asg w3 (ev_mod (ev_int1 (ev_ix (ev_var (S := SA p0) rfl rfl) ev_int (src_o (R := rInt) (xs := state) 0 rfl rfl) e5)) (ev_var (S := rInt.s K many) rfl (Sv.mono _ x3 z1)) e7) (fun w_v9 B8 H8 x8 w8 h10 => ?_)
      obtain ⟨t11, e12, hm⟩ := ob hm
      obtain ⟨t13, e14, hm⟩ := ob hm
      obtain ⟨state15, e16, hm⟩ := ob hm
      refine s_set 0 rfl w8 (ev_div (ev_ix (ev_var (S := SA p0) rfl rfl) ev_int (src_o (R := rInt) (xs := state) 0 rfl rfl) e12) (ev_var (S := rInt.s K many) rfl (Sv.mono _ x8 (Sv.mono _ x3 z1))) e14) (ev_var (S := SA p0) rfl rfl) ev_int rfl e16 (fun B17 H17 x17 w17 => ?_)
      refine s_ret w17 (ev_var (S := rInt.s K t6) rfl (Sv.mono _ x17 h10)) (fun vv B18 H18 x18 w18 hv => ?_)
      cases hm
      obtain ⟨oz, gz1, _, gz3, gz4⟩ := w18.cell.get (i := 0) rfl rfl
      exact k _ _ _ oz w18.st w18.ex gz1 gz3 gz4 ((imm_flat _) _ _ _ _ _ hv)
    · have hm := ie hb hm
      obtain ⟨t19, e20, hm⟩ := ob hm
      obtain ⟨state21, e22, hm⟩ := ob hm
      refine s_set 0 rfl w3 (ev_add (ev_ix (ev_var (S := SA p0) rfl rfl) ev_int (src_o (R := rInt) (xs := state) 0 rfl rfl) e20) ev_int) (ev_var (S := SA p0) rfl rfl) ev_int rfl e22 (fun B23 H23 x23 w23 => ?_)
      obtain ⟨t24, e25, hm⟩ := ob hm
      obtain ⟨t26, e27, hm⟩ := ob hm
      obtain ⟨t28, e29, hm⟩ := ob hm
      obtain ⟨t30, e31, hm⟩ := ob hm
      obtain ⟨t32, e33, hm⟩ := ob hm
      refine s_asg w23 (ev_mod (ev_int1 (ev_add (ev_add (ev_mul (ev_ix (ev_var (S := SA p0) rfl rfl) ev_int (src_o (R := rInt) (xs := state21) 0 rfl rfl) e25) ev_int e27) (ev_mul (ev_ix (ev_var (S := SA p0) rfl rfl) ev_int (src_o (R := rInt) (xs := state21) 0 rfl rfl) e29) ev_int e31)) ev_int)) ev_int e33) (fun w_v35 B34 H34 x34 w34 h36 => ?_)
      obtain ⟨t37, e38, hm⟩ := ob hm
      obtain ⟨t39, e40, hm⟩ := ob hm
      obtain ⟨t41, e42, hm⟩ := ob hm
      obtain ⟨t43, e44, hm⟩ := ob hm
      refine s_asg w34 (ev_mod (ev_int1 (ev_add (ev_add (ev_mul (ev_var (S := rInt.s K t32) rfl h36) (ev_var (S := rInt.s K t32) rfl h36) e38) (ev_mul (ev_ix (ev_var (S := SA p0) rfl rfl) ev_int (src_o (R := rInt) (xs := state21) 0 rfl rfl) e40) ev_int e42)) ev_int)) ev_int e44) (fun w_v46 B45 H45 x45 w45 h47 => ?_)
      obtain ⟨t48, e49, hm⟩ := ob hm
      obtain ⟨t50, e51, hm⟩ := ob hm
      obtain ⟨t52, e53, hm⟩ := ob hm
      refine s_asg w45 (ev_mod (ev_int1 (ev_add (ev_add (ev_mul (ev_var (S := rInt.s K t43) rfl h47) (ev_var (S := rInt.s K t43) rfl h47) e49) (ev_mul (ev_var (S := rInt.s K t32) rfl (Sv.mono _ x45 h36)) ev_int e51)) ev_int)) ev_int e53) (fun w_v55 B54 H54 x54 w54 h56 => ?_)
      obtain ⟨t57, e58, hm⟩ := ob hm
      obtain ⟨t59, e60, hm⟩ := ob hm
      refine s_ret w54 (ev_mod (ev_int1 (ev_div (ev_var (S := rInt.s K t52) rfl h56) ev_int e58)) (ev_var (S := rInt.s K many) rfl (Sv.mono _ x54 (Sv.mono _ x45 (Sv.mono _ x34 (Sv.mono _ x23 (Sv.mono _ x3 z1)))))) e60) (fun vv B61 H61 x61 w61 hv => ?_)
      cases hm
      obtain ⟨oz, gz1, _, gz3, gz4⟩ := w61.cell.get (i := 0) rfl rfl
      exact k _ _ _ oz w61.st w61.ex gz1 gz3 gz4 ((imm_flat _) _ _ _ _ _ hv)
def m__law_size : (List Int) × Int × Int → Option (Int × (List Int)) := fun (state, usual, most) =>
  (m__law_pick (state, (16 : Int))).bind fun (r1, state3) =>
  cond (decide (r1 = (0 : Int))) (some (most, state3)) (cond (decide (r1 = (1 : Int))) ((m__law_pick (state3, most)).bind fun (r10, state12) =>
  some (((1 : Int) + r10), state12)) ((m__law_pick (state3, usual)).bind fun (r14, state16) =>
  some (((1 : Int) + r14), state16)))
def p__law_size (K : Fg) : Sp := Pr1 K (fun (g : (List Int) × Int × Int) p => [SA p, rInt.s K g.2.1, rInt.s K g.2.2]) (fun g => CL rInt K g.1) m__law_size (fun e => CL rInt K e) rInt
abbrev N__law_size : List Str := ["state", "usual", "most", "kind"]
theorem sc__law_size : FnScope N__law_size ["state", "usual", "most"] (defScope s__law_size) := ⟨rfl, rfl, rfl, by decide +kernel, rfl, by decide +kernel, by decide +kernel⟩
theorem ok__law_size {P : Program} {w : World} {K : Fg} {mg : Str → Option Value} {base : Heap} (T : Tx P K mg) {fd : FuncData} (F : FnP K "_law_size" s__law_size (He.ga K "_law_size") fd) : FnOk P w K mg base (L2.CX P w) 2 (He.ga K "_law_size") fd ["state", "usual", "most"] (p__law_size K) := by
  obtain ⟨fd__law_pick, F__law_pick⟩ := T.f__law_pick
  have b__law_pick : Binds K fd__law_pick ["state", "many"] [] := F__law_pick.bindsN fun _ _ _ _ _ _ us hl => match us, hl with | [_, _], _ => rfl
  have G__law_pick : FnOk P w K mg base (L2.CX P w) 1 (He.ga K "_law_pick") fd__law_pick ["state", "many"] (p__law_pick K) := ok__law_pick T F__law_pick
  have sc := sc__law_size
  refine F.ok sc (fun vs H Q E h => ?_) (fun cdv A outer s H vs Q E hr h => ?_)
  · obtain ⟨g, p, z, B, o, ss, _⟩ := h
    exact (Paired.length ss).trans rfl
  · obtain ⟨⟨state, usual, most⟩, p0, z, B, o, ss, ex, h1, h2, h3, h4, hm, k⟩ := h
    obtain ⟨v0, v1, v2, rfl, z0, z1, z2⟩ := pn3 ss
    cases (show _ = V.ref p0 from z0)
    refine ⟨_, (pss_cons (ps_set (i := 3) sc.nd rfl (Or.inl rfl) (pe_call G__law_pick (hr.mono (by decide)) (by rfl) T.m__law_pick F__law_pick.kp b__law_pick .nil passL (pa_cons (pv 0) (pa_cons pe_int pa_nil)))) (pss_cons (ps_if (pt_cmpR op_eq (pv 3) pe_int (nomark _)) (pss_one (ps_ret (pv 2))) pss_nil) (pss_cons (ps_if (pt_cmpR op_eq (pv 3) pe_int (nomark _)) (pss_one (ps_ret (pe_op op_add pe_int (pe_call G__law_pick (hr.mono (by decide)) (by rfl) T.m__law_pick F__law_pick.kp b__law_pick .nil passL (pa_cons (pv 0) (pa_cons (pv 2) pa_nil)))))) pss_nil) (pss_one (ps_ret (pe_op op_add pe_int (pe_call G__law_pick (hr.mono (by decide)) (by rfl) T.m__law_pick F__law_pick.kp b__law_pick .nil passL (pa_cons (pv 0) (pa_cons (pv 1) pa_nil))))))))), ?_⟩
    have w := Wd.start1 (K := K) ex h1 h2 h3 h4
    unfold m__law_size at hm
    obtain ⟨⟨r1, state3⟩, e2, hm⟩ := ob hm
    try dsimp only at hm
    refine s_asg w ((ev_call1 (g := (state, (16 : Int))) 0 rfl (ea_cons (ev_var (S := SA p0) rfl rfl) (ea_cons ev_int ea_nil)) rfl (al_p (fun a z => List.mem_of_mem_eraseIdx z) (al_p (fun a z => List.mem_of_mem_eraseIdx z) al_nil)) e2 (csi (imm_flat _))).le g_s) (fun w_v5 B4 H4 x4 w4 h6 => ?_)
    try dsimp only
    refine s_if w4 (et_test (ev_eqI (ev_var (S := rInt.s K r1) rfl h6) ev_int)) (fun hb B7 H7 x7 w7 => ?_) (fun hb B7 H7 x7 w7 => ?_)
    · have hm := it hb hm
      refine s_ret w7 (ev_var (S := rInt.s K most) rfl (Sv.mono _ x7 (Sv.mono _ x4 z2))) (fun vv B8 H8 x8 w8 hv => ?_)
      cases hm
      obtain ⟨oz, gz1, _, gz3, gz4⟩ := w8.cell.get (i := 0) rfl rfl
      exact k _ _ _ oz w8.st w8.ex gz1 gz3 gz4 ((imm_flat _) _ _ _ _ _ hv)
    · have hm := ie hb hm
      try dsimp only
      refine s_if w7 (et_test (ev_eqI (ev_var (S := rInt.s K r1) rfl (Sv.mono _ x7 h6)) ev_int)) (fun hb B9 H9 x9 w9 => ?_) (fun hb B9 H9 x9 w9 => ?_)
      · have hm := it hb hm
        obtain ⟨⟨r10, state12⟩, e11, hm⟩ := ob hm
        try dsimp only at hm
        refine s_ret w9 (ev_add ev_int ((ev_call1 (g := (state3, most)) 0 rfl (ea_cons (ev_var (S := SA p0) rfl rfl) (ea_cons (ev_var (S := rInt.s K most) rfl (Sv.mono _ x9 (Sv.mono _ x7 (Sv.mono _ x4 z2)))) ea_nil)) rfl (al_p (fun a z => List.mem_of_mem_eraseIdx z) (al_p (fun a z => List.mem_of_mem_eraseIdx z) al_nil)) e11 (csi (imm_flat _))).le g_s)) (fun vv B13 H13 x13 w13 hv => ?_)
        cases hm
        obtain ⟨oz, gz1, _, gz3, gz4⟩ := w13.cell.get (i := 0) rfl rfl
        exact k _ _ _ oz w13.st w13.ex gz1 gz3 gz4 ((imm_flat _) _ _ _ _ _ hv)
      · have hm := ie hb hm
        obtain ⟨⟨r14, state16⟩, e15, hm⟩ := ob hm
        try dsimp only at hm
        refine s_ret w9 (ev_add ev_int ((ev_call1 (g := (state3, usual)) 0 rfl (ea_cons (ev_var (S := SA p0) rfl rfl) (ea_cons (ev_var (S := rInt.s K usual) rfl (Sv.mono _ x9 (Sv.mono _ x7 (Sv.mono _ x4 z1)))) ea_nil)) rfl (al_p (fun a z => List.mem_of_mem_eraseIdx z) (al_p (fun a z => List.mem_of_mem_eraseIdx z) al_nil)) e15 (csi (imm_flat _))).le g_s)) (fun vv B17 H17 x17 w17 hv => ?_)
        cases hm
        obtain ⟨oz, gz1, _, gz3, gz4⟩ := w17.cell.get (i := 0) rfl rfl
        exact k _ _ _ oz w17.st w17.ex gz1 gz3 gz4 ((imm_flat _) _ _ _ _ _ hv)
def m__law_shuffled : (List Int) × (List Int) → Option ((List Int) × (List Int)) := fun (state, row) =>
  (rngO (0 : Int) (row.length : Int)).bind fun xs7 =>
  finK (fun (rr : (List Int) × (List Int) × (List Int)) => match rr with | (state9, left10, x_order11) => (some (x_order11, state9))) (fun (_ : Unit) => none) (forL (fun (turn13 : Int) (rr : (List Int) × (List Int) × (List Int)) => (match rr with | (state9, left10, x_order11) => ((m__law_pick (state9, (left10.length : Int))).bind fun (r17, state19) =>
  (popAtO left10 r17).bind fun (r14, left15) =>
  (appO x_order11 r14).bind fun x_order20 =>
  some (.nx (state19, left15, x_order20))) : Option (Ctl ((List Int) × (List Int) × (List Int)) Unit))) xs7 (state, row, ([] : List Int)))
def p__law_shuffled (K : Fg) : Sp := Pr1 K (fun (g : (List Int) × (List Int)) p => [SA p, (rLst rInt).s K g.2]) (fun g => CL rInt K g.1) m__law_shuffled (fun e => CL rInt K e) (rLst rInt)
abbrev N__law_shuffled : List Str := ["state", "row", "left", "order", "turn"]
theorem sc__law_shuffled : FnScope N__law_shuffled ["state", "row"] (defScope s__law_shuffled) := ⟨rfl, rfl, rfl, by decide +kernel, rfl, by decide +kernel, by decide +kernel⟩
theorem ok__law_shuffled {P : Program} {w : World} {K : Fg} {mg : Str → Option Value} {base : Heap} (T : Tx P K mg) {fd : FuncData} (F : FnP K "_law_shuffled" s__law_shuffled (He.ga K "_law_shuffled") fd) : FnOk P w K mg base (L2.CX P w) 2 (He.ga K "_law_shuffled") fd ["state", "row"] (p__law_shuffled K) := by
  obtain ⟨fd__law_pick, F__law_pick⟩ := T.f__law_pick
  have b__law_pick : Binds K fd__law_pick ["state", "many"] [] := F__law_pick.bindsN fun _ _ _ _ _ _ us hl => match us, hl with | [_, _], _ => rfl
  have G__law_pick : FnOk P w K mg base (L2.CX P w) 1 (He.ga K "_law_pick") fd__law_pick ["state", "many"] (p__law_pick K) := ok__law_pick T F__law_pick
  have sc := sc__law_shuffled
  refine F.ok sc (fun vs H Q E h => ?_) (fun cdv A outer s H vs Q E hr h => ?_)
  · obtain ⟨g, p, z, B, o, ss, _⟩ := h
    exact (Paired.length ss).trans rfl
  · obtain ⟨⟨state, row⟩, p0, z, B, o, ss, ex, h1, h2, h3, h4, hm, k⟩ := h
    obtain ⟨v0, v1, rfl, z0, z1⟩ := pn2 ss
    cases (show _ = V.ref p0 from z0)
    refine ⟨_, (pss_cons (ps_set (i := 2) sc.nd rfl (Or.inl rfl) (pe_callTy (clst (K := K) rfl) (by rfl) T.b_list (by decide +kernel) (pa_cons (pv 1) pa_nil))) (pss_cons (ps_set (i := 3) sc.nd rfl (Or.inl rfl) (pe_lst pa_nil)) (pss_cons (ps_for (passes_of rfl) rfl (pi_range1 (by rfl) T.b_range (pa_cons (pe_callB (clen (K := K) rfl) (by rfl) T.b_len (by decide +kernel) (pa_cons (pv 1) pa_nil)) pa_nil)) (pg_name (i := 4) sc.nd rfl (Or.inl rfl)) (pss_one (ps_expr (pe_bm PySem.F.plainAttrs_list PySem.F.slot_list_append PySem.F.type_list_append mt_append (pv 3) (pa_cons (pe_bm PySem.F.plainAttrs_list PySem.F.slot_list_pop PySem.F.type_list_pop mt_popAt (pv 2) (pa_cons (pe_call G__law_pick (hr.mono (by decide)) (by rfl) T.m__law_pick F__law_pick.kp b__law_pick .nil passL (pa_cons (pv 0) (pa_cons (pe_callB (clen (K := K) rfl) (by rfl) T.b_len (by decide +kernel) (pa_cons (pv 2) pa_nil)) pa_nil))) pa_nil)) pa_nil))))) (pss_one (ps_ret (pv 3)))))), ?_⟩
    have w := Wd.start1 (K := K) ex h1 h2 h3 h4
    unfold m__law_shuffled at hm
    refine s_own w (ev_list (ev_var (S := (rLst rInt).s K row) rfl z1) src_p) (imm_flat _) ⟨csi (imm_flat _), trivial⟩ (fun q2 B1 H1 x1 n3 w1 => ?_)
    refine s_ownNil rInt w1 (fun q5 H4 n6 w4 => ?_)
    try dsimp only
    obtain ⟨xs7, e8, hm⟩ := ob hm
    refine s_for (R := rInt) (oo := (fun (rr : (List Int) × (List Int) × (List Int)) => [CL rInt K rr.2.2, CL rInt K rr.2.1, CL rInt K rr.1])) (ρ0 := (state, row, ([] : List Int))) (fun (turn13 : Int) (rr : (List Int) × (List Int) × (List Int)) => (match rr with | (state9, left10, x_order11) => ((m__law_pick (state9, (left10.length : Int))).bind fun (r17, state19) =>
(popAtO left10 r17).bind fun (r14, left15) =>
(appO x_order11 r14).bind fun x_order20 =>
some (.nx (state19, left15, x_order20))) : Option (Ctl ((List Int) × (List Int) × (List Int)) Unit))) (fun (rr : (List Int) × (List Int) × (List Int)) σ' B' => ∃ o_4 : Option V, σ' = [some (.ref p0), some v1, some (.ref q2), some (.ref q5), o_4]) (fun zz => finK _ _ zz = some _) w4 (ei_r1 (ev_len (ev_var (S := (rLst rInt).s K row) rfl (Sv.mono _ x1 z1)) src_p) e8) (fun rr σ' B1 B2 e ⟨o_4, hσ⟩ => ⟨o_4, hσ⟩) (fun B2 e => ⟨_, rfl⟩) hm ?_ ?_
    · rintro turn13 rst rr vx12 σ' Bt12 Ht12 xt12 wt12 ⟨o_4t12, rfl⟩ hx12 hf N hN dn
      dsimp only [gName]
      obtain ⟨state9, left10, x_order11⟩ := rr
      obtain ⟨ctl, hfx, hbk12, hrt12⟩ := forL_step hf
      have hm := hfx
      obtain ⟨⟨r17, state19⟩, e18, hm⟩ := ob hm
      try dsimp only at hm
      obtain ⟨⟨r14, left15⟩, e16, hm⟩ := ob hm
      try dsimp only at hm
      obtain ⟨x_order20, e21, hm⟩ := ob hm
      refine s_drop wt12 (ev_app 0 rfl (ev_var (S := SA q5) rfl rfl) rfl (ev_popAt 1 rfl (ev_var (S := SA q2) rfl rfl) rfl ((ev_call1 (g := (state9, (left10.length : Int))) 2 rfl (ea_cons (ev_var (S := SA p0) rfl rfl) (ea_cons (ev_len (ev_var (S := SA q2) rfl rfl) (src_o (R := rInt) (xs := left10) 1 rfl rfl)) ea_nil)) rfl (al_p (fun a z => List.mem_of_mem_eraseIdx z) (al_p (fun a z => List.mem_of_mem_eraseIdx z) al_nil)) e18 (csi (imm_flat _))).le g_s) rfl e16) rfl e21) (fun B22 H22 x22 w22 => ?_)
      have hq_ := Option.some.inj hm
      subst hq_
      exact hN (state19, left15, x_order20) _ _ _ hfx x22 w22 ⟨_, rfl⟩
    · rintro rr σ' B23 H23 x23 w23 ⟨o_4k24, rfl⟩ hm
      try dsimp only
      replace hm := finK_nx hm
      obtain ⟨state9, left10, x_order11⟩ := rr
      refine s_ret w23 (ev_var (S := SA q5) rfl rfl) (fun vv B25 H25 x25 w25 hv => ?_)
      cases (show vv = _ from hv)
      cases hm
      obtain ⟨Bz, xz, w26, rz⟩ := r_o w25 n6 (imm_flat _)
      obtain ⟨oz, gz1, _, gz3, gz4⟩ := w26.cell.get (i := 1) rfl rfl
      exact k _ _ _ oz w26.st w26.ex gz1 gz3 gz4 rz
def m__law_some : (List Int) × (List Int) → Option ((List Int) × (List Int)) := fun (state, row) =>
  (lcO (fun (thing : Int) (rr : (List Int)) => match rr with | state => (m__law_pick (state, (2 : Int))).bind fun (r1, state3) => some ((decide (r1 = (1 : Int))), state3)) (fun (thing : Int) (rr : (List Int)) => match rr with | state3 => some (thing, state3)) row state).bind fun (ys4, state6) =>
  some (ys4, state6)
def p__law_some (K : Fg) : Sp := Pr1 K (fun (g : (List Int) × (List Int)) p => [SA p, (rLst rInt).s K g.2]) (fun g => CL rInt K g.1) m__law_some (fun e => CL rInt K e) (rLst rInt)
abbrev N__law_some : List Str := ["state", "row", "thing"]
theorem sc__law_some : FnScope N__law_some ["state", "row"] (defScope s__law_some) := ⟨rfl, rfl, rfl, by decide +kernel, rfl, by decide +kernel, by decide +kernel⟩
theorem ok__law_some {P : Program} {w : World} {K : Fg} {mg : Str → Option Value} {base : Heap} (T : Tx P K mg) {fd : FuncData} (F : FnP K "_law_some" s__law_some (He.ga K "_law_some") fd) : FnOk P w K mg base (L2.CX P w) 2 (He.ga K "_law_some") fd ["state", "row"] (p__law_some K) := by
  obtain ⟨fd__law_pick, F__law_pick⟩ := T.f__law_pick
  have b__law_pick : Binds K fd__law_pick ["state", "many"] [] := F__law_pick.bindsN fun _ _ _ _ _ _ us hl => match us, hl with | [_, _], _ => rfl
  have G__law_pick : FnOk P w K mg base (L2.CX P w) 1 (He.ga K "_law_pick") fd__law_pick ["state", "many"] (p__law_pick K) := ok__law_pick T F__law_pick
  have sc := sc__law_some
  refine F.ok sc (fun vs H Q E h => ?_) (fun cdv A outer s H vs Q E hr h => ?_)
  · obtain ⟨g, p, z, B, o, ss, _⟩ := h
    exact (Paired.length ss).trans rfl
  · obtain ⟨⟨state, row⟩, p0, z, B, o, ss, ex, h1, h2, h3, h4, hm, k⟩ := h
    obtain ⟨v0, v1, rfl, z0, z1⟩ := pn2 ss
    cases (show _ = V.ref p0 from z0)
    refine ⟨_, (pss_one (ps_ret (pe_lc (own := [("thing", 2)]) (g := (gName 2)) (by rfl) sc.nd (pi_list (pv 1)) (blkOk_by (own := [("thing", 2)]) (N := N__law_some) (sc := defScope s__law_some) (by decide +kernel)) (fun _ _ _ _ _ => pg_name (i := 2) sc.nd rfl (Or.inl rfl)) (fun _ _ _ _ _ => pts_one (pt_cmpR op_eq (pe_call G__law_pick (hr.mono (by decide)) (by rfl) T.m__law_pick F__law_pick.kp b__law_pick .nil passL (pa_cons (pv 0) (pa_cons pe_int pa_nil))) pe_int (nomark _))) (fun _ _ _ _ _ => (pv 2))))), ?_⟩
    have w := Wd.start1 (K := K) ex h1 h2 h3 h4
    unfold m__law_some at hm
    obtain ⟨⟨ys4, state6⟩, e5, hm⟩ := ob hm
    try dsimp only at hm
    refine s_ret w (ev_lc (R := rInt) (R' := rInt) (oo := (fun (rr : (List Int)) => [CL rInt K rr])) (fun (thing : Int) (rr : (List Int)) => match rr with | state => (m__law_pick (state, (2 : Int))).bind fun (r1, state3) => some ((decide (r1 = (1 : Int))), state3)) (fun (thing : Int) (rr : (List Int)) => match rr with | state3 => some (thing, state3)) (lcT rInt K _ 2 [2]) (ei_list (ev_var (S := (rLst rInt).s K row) rfl z1)) e5 (lcT_mono _ _ _ _ _) (lcT_name rfl 2 [2] (by intro x; rfl)) (fun thing state bb r1 σ2 B' pD acc ht eB ⟨vx, hσ, hx⟩ => by subst hσ; obtain ⟨⟨r1, state3⟩, e2, ht⟩ := ob ht; try dsimp only at ht; cases ht; exact (et_test (ev_eqI ((ev_call1 (g := (state, (2 : Int))) 1 rfl (ea_cons (ev_var (S := SA p0) rfl rfl) (ea_cons ev_int ea_nil)) rfl (al_p (fun a z => List.mem_of_mem_eraseIdx z) (al_p (fun a z => List.mem_of_mem_eraseIdx z) al_nil)) e2 (csi (imm_flat _))).le g_s) ev_int))) (fun thing state3 yy r1 σ2 B' pD acc he eB ⟨vx, hσ, hx⟩ => by subst hσ; cases he; exact (ev_var (S := rInt.s K thing) rfl hx))) (fun vv B7 H7 x7 w7 hv => ?_)
    cases hm
    obtain ⟨oz, gz1, _, gz3, gz4⟩ := w7.cell.get (i := 0) rfl rfl
    exact k _ _ _ oz w7.st w7.ex gz1 gz3 gz4 (r_n w (imm_flat _) hv)
def m__law_few : (List Int) × (List Int) → Option ((List Int) × (List Int)) := fun (state, row) =>
  (m__law_pick (state, (6 : Int))).bind fun (r1, state3) =>
  cond (decide (r1 = (0 : Int))) (some (([] : List Int), state3)) (cond (decide (r1 = (1 : Int))) ((m__law_shuffled (state3, row)).bind fun (r10, state12) =>
  some (r10, state12)) (cond (decide (r1 = (2 : Int))) ((m__law_shuffled (state3, row)).bind fun (r15, state17) =>
  (m__law_pick (state17, (2 : Int))).bind fun (r18, state20) =>
  some ((cut r15 none (some ((1 : Int) + r18))), state20)) ((m__law_some (state3, row)).bind fun (r22, state24) =>
  (m__law_shuffled (state24, r22)).bind fun (r25, state27) =>
  some (r25, state27))))
def p__law_few (K : Fg) : Sp := Pr1 K (fun (g : (List Int) × (List Int)) p => [SA p, (rLst rInt).s K g.2]) (fun g => CL rInt K g.1) m__law_few (fun e => CL rInt K e) (rLst rInt)
abbrev N__law_few : List Str := ["state", "row", "kind"]
theorem sc__law_few : FnScope N__law_few ["state", "row"] (defScope s__law_few) := ⟨rfl, rfl, rfl, by decide +kernel, rfl, by decide +kernel, by decide +kernel⟩
theorem ok__law_few {P : Program} {w : World} {K : Fg} {mg : Str → Option Value} {base : Heap} (T : Tx P K mg) {fd : FuncData} (F : FnP K "_law_few" s__law_few (He.ga K "_law_few") fd) : FnOk P w K mg base (L2.CX P w) 3 (He.ga K "_law_few") fd ["state", "row"] (p__law_few K) := by
  obtain ⟨fd__law_pick, F__law_pick⟩ := T.f__law_pick
  have b__law_pick : Binds K fd__law_pick ["state", "many"] [] := F__law_pick.bindsN fun _ _ _ _ _ _ us hl => match us, hl with | [_, _], _ => rfl
  have G__law_pick : FnOk P w K mg base (L2.CX P w) 1 (He.ga K "_law_pick") fd__law_pick ["state", "many"] (p__law_pick K) := ok__law_pick T F__law_pick
  obtain ⟨fd__law_shuffled, F__law_shuffled⟩ := T.f__law_shuffled
  have b__law_shuffled : Binds K fd__law_shuffled ["state", "row"] [] := F__law_shuffled.bindsN fun _ _ _ _ _ _ us hl => match us, hl with | [_, _], _ => rfl
  have G__law_shuffled : FnOk P w K mg base (L2.CX P w) 2 (He.ga K "_law_shuffled") fd__law_shuffled ["state", "row"] (p__law_shuffled K) := ok__law_shuffled T F__law_shuffled
  obtain ⟨fd__law_some, F__law_some⟩ := T.f__law_some
  have b__law_some : Binds K fd__law_some ["state", "row"] [] := F__law_some.bindsN fun _ _ _ _ _ _ us hl => match us, hl with | [_, _], _ => rfl
  have G__law_some : FnOk P w K mg base (L2.CX P w) 2 (He.ga K "_law_some") fd__law_some ["state", "row"] (p__law_some K) := ok__law_some T F__law_some
  have sc := sc__law_few
  refine F.ok sc (fun vs H Q E h => ?_) (fun cdv A outer s H vs Q E hr h => ?_)
  · obtain ⟨g, p, z, B, o, ss, _⟩ := h
    exact (Paired.length ss).trans rfl
  · obtain ⟨⟨state, row⟩, p0, z, B, o, ss, ex, h1, h2, h3, h4, hm, k⟩ := h
    obtain ⟨v0, v1, rfl, z0, z1⟩ := pn2 ss
    cases (show _ = V.ref p0 from z0)
    refine ⟨_, (pss_cons (ps_set (i := 2) sc.nd rfl (Or.inl rfl) (pe_call G__law_pick (hr.mono (by decide)) (by rfl) T.m__law_pick F__law_pick.kp b__law_pick .nil passL (pa_cons (pv 0) (pa_cons pe_int pa_nil)))) (pss_cons (ps_if (pt_cmpR op_eq (pv 2) pe_int (nomark _)) (pss_one (ps_ret (pe_lst pa_nil))) pss_nil) (pss_cons (ps_if (pt_cmpR op_eq (pv 2) pe_int (nomark _)) (pss_one (ps_ret (pe_call G__law_shuffled (hr.mono (by decide)) (by rfl) T.m__law_shuffled F__law_shuffled.kp b__law_shuffled .nil passL (pa_cons (pv 0) (pa_cons (pv 1) pa_nil))))) pss_nil) (pss_cons (ps_if (pt_cmpR op_eq (pv 2) pe_int (nomark _)) (pss_one (ps_ret (pe_slice (sll (K := K) rfl) (pe_call G__law_shuffled (hr.mono (by decide)) (by rfl) T.m__law_shuffled F__law_shuffled.kp b__law_shuffled .nil passL (pa_cons (pv 0) (pa_cons (pv 1) pa_nil))) po_none (po_some (pe_op op_add pe_int (pe_call G__law_pick (hr.mono (by decide)) (by rfl) T.m__law_pick F__law_pick.kp b__law_pick .nil passL (pa_cons (pv 0) (pa_cons pe_int pa_nil)))))))) pss_nil) (pss_one (ps_ret (pe_call G__law_shuffled (hr.mono (by decide)) (by rfl) T.m__law_shuffled F__law_shuffled.kp b__law_shuffled .nil passL (pa_cons (pv 0) (pa_cons (pe_call G__law_some (hr.mono (by decide)) (by rfl) T.m__law_some F__law_some.kp b__law_some .nil passL (pa_cons (pv 0) (pa_cons (pv 1) pa_nil))) pa_nil))))))))), ?_⟩
    have w := Wd.start1 (K := K) ex h1 h2 h3 h4
    unfold m__law_few at hm
    obtain ⟨⟨r1, state3⟩, e2, hm⟩ := ob hm
    try dsimp only at hm
    refine s_asg w ((ev_call1 (g := (state, (6 : Int))) 0 rfl (ea_cons (ev_var (S := SA p0) rfl rfl) (ea_cons ev_int ea_nil)) rfl (al_p (fun a z => List.mem_of_mem_eraseIdx z) (al_p (fun a z => List.mem_of_mem_eraseIdx z) al_nil)) e2 (csi (imm_flat _))).le g_s) (fun w_v5 B4 H4 x4 w4 h6 => ?_)
    try dsimp only
    refine s_if w4 (et_test (ev_eqI (ev_var (S := rInt.s K r1) rfl h6) ev_int)) (fun hb B7 H7 x7 w7 => ?_) (fun hb B7 H7 x7 w7 => ?_)
    · have hm := it hb hm
      refine s_ret w7 (ev_lst (R := rInt) (xs := []) ea_nil (by decide)) (fun vv B8 H8 x8 w8 hv => ?_)
      cases hm
      obtain ⟨oz, gz1, _, gz3, gz4⟩ := w8.cell.get (i := 0) rfl rfl
      exact k _ _ _ oz w8.st w8.ex gz1 gz3 gz4 (r_n w7 (imm_flat _) hv)
    · have hm := ie hb hm
      try dsimp only
      refine s_if w7 (et_test (ev_eqI (ev_var (S := rInt.s K r1) rfl (Sv.mono _ x7 h6)) ev_int)) (fun hb B9 H9 x9 w9 => ?_) (fun hb B9 H9 x9 w9 => ?_)
      · have hm := it hb hm
        obtain ⟨⟨r10, state12⟩, e11, hm⟩ := ob hm
        try dsimp only at hm
        refine s_ret w9 (ev_call1 (g := (state3, row)) 0 rfl (ea_cons (ev_var (S := SA p0) rfl rfl) (ea_cons (ev_var (S := (rLst rInt).s K row) rfl (Sv.mono _ x9 (Sv.mono _ x7 (Sv.mono _ x4 z1)))) ea_nil)) rfl (al_p (fun a z => List.mem_of_mem_eraseIdx z) (al_p (fun a z => List.mem_of_mem_eraseIdx z) al_nil)) e11 (csi (imm_flat _))) (fun vv B13 H13 x13 w13 hv => ?_)
        cases hm
        obtain ⟨oz, gz1, _, gz3, gz4⟩ := w13.cell.get (i := 0) rfl rfl
        exact k _ _ _ oz w13.st w13.ex gz1 gz3 gz4 (r_f w9 hv)
      · have hm := ie hb hm
        try dsimp only
        refine s_if w9 (et_test (ev_eqI (ev_var (S := rInt.s K r1) rfl (Sv.mono _ x9 (Sv.mono _ x7 h6))) ev_int)) (fun hb B14 H14 x14 w14 => ?_) (fun hb B14 H14 x14 w14 => ?_)
        · have hm := it hb hm
          obtain ⟨⟨r15, state17⟩, e16, hm⟩ := ob hm
          try dsimp only at hm
          obtain ⟨⟨r18, state20⟩, e19, hm⟩ := ob hm
          try dsimp only at hm
          refine s_ret w14 (ev_cut (ev_call1 (g := (state3, row)) 0 rfl (ea_cons (ev_var (S := SA p0) rfl rfl) (ea_cons (ev_var (S := (rLst rInt).s K row) rfl (Sv.mono _ x14 (Sv.mono _ x9 (Sv.mono _ x7 (Sv.mono _ x4 z1))))) ea_nil)) rfl (al_p (fun a z => List.mem_of_mem_eraseIdx z) (al_p (fun a z => List.mem_of_mem_eraseIdx z) al_nil)) e16 (csi (imm_flat _))) eo_none (eo_some (ev_add ev_int ((ev_call1 (g := (state17, (2 : Int))) 0 rfl (ea_cons (ev_var (S := SA p0) rfl rfl) (ea_cons ev_int ea_nil)) rfl (al_p (fun a z => List.mem_of_mem_eraseIdx z) (al_p (fun a z => List.mem_of_mem_eraseIdx z) al_nil)) e19 (csi (imm_flat _))).le g_s))) src_g) (fun vv B21 H21 x21 w21 hv => ?_)
          cases hm
          obtain ⟨oz, gz1, _, gz3, gz4⟩ := w21.cell.get (i := 0) rfl rfl
          exact k _ _ _ oz w21.st w21.ex gz1 gz3 gz4 (r_n w14 (imm_flat _) hv)
        · have hm := ie hb hm
          obtain ⟨⟨r22, state24⟩, e23, hm⟩ := ob hm
          try dsimp only at hm
          obtain ⟨⟨r25, state27⟩, e26, hm⟩ := ob hm
          try dsimp only at hm
          refine s_ret w14 (ev_call1 (g := (state24, r22)) 0 rfl (ea_cons (ev_var (S := SA p0) rfl rfl) (ea_cons (ev_call1 (g := (state3, row)) 0 rfl (ea_cons (ev_var (S := SA p0) rfl rfl) (ea_cons (ev_var (S := (rLst rInt).s K row) rfl (Sv.mono _ x14 (Sv.mono _ x9 (Sv.mono _ x7 (Sv.mono _ x4 z1))))) ea_nil)) rfl (al_p (fun a z => List.mem_of_mem_eraseIdx z) (al_p (fun a z => List.mem_of_mem_eraseIdx z) al_nil)) e23 (csi (imm_flat _))) ea_nil)) rfl (al_p (fun a z => List.mem_of_mem_eraseIdx z) (al_le g_s (fun a z => List.mem_of_mem_eraseIdx z) al_nil)) e26 (csi (imm_flat _))) (fun vv B28 H28 x28 w28 hv => ?_)
          cases hm
          obtain ⟨oz, gz1, _, gz3, gz4⟩ := w28.cell.get (i := 0) rfl rfl
          exact k _ _ _ oz w28.st w28.ex gz1 gz3 gz4 (r_f w14 hv)
def m__law_stranger : (List Int) × Int → Option (Int × (List Int)) := fun (state, size) =>
  (m__law_pick (state, (20 : Int))).bind fun (r1, state3) =>
  (m__law_pick (state3, (9 : Int))).bind fun (r4, state6) =>
  (m__law_pick (state6, (4 : Int))).bind fun (r7, state9) =>
  (atI [size, (-(1 : Int)), ((size + (1 : Int)) + r1), ((-(2 : Int)) - r4)] r7).bind fun t10 =>
  some (t10, state9)
def p__law_stranger (K : Fg) : Sp := Pr1 K (fun (g : (List Int) × Int) p => [SA p, rInt.s K g.2]) (fun g => CL rInt K g.1) m__law_stranger (fun e => CL rInt K e) rInt
abbrev N__law_stranger : List Str := ["state", "size"]
theorem sc__law_stranger : FnScope N__law_stranger ["state", "size"] (defScope s__law_stranger) := ⟨rfl, rfl, rfl, by decide +kernel, rfl, by decide +kernel, by decide +kernel⟩
theorem ok__law_stranger {P : Program} {w : World} {K : Fg} {mg : Str → Option Value} {base : Heap} (T : Tx P K mg) {fd : FuncData} (F : FnP K "_law_stranger" s__law_stranger (He.ga K "_law_stranger") fd) : FnOk P w K mg base (L2.CX P w) 2 (He.ga K "_law_stranger") fd ["state", "size"] (p__law_stranger K) := by
  obtain ⟨fd__law_pick, F__law_pick⟩ := T.f__law_pick
  have b__law_pick : Binds K fd__law_pick ["state", "many"] [] := F__law_pick.bindsN fun _ _ _ _ _ _ us hl => match us, hl with | [_, _], _ => rfl
  have G__law_pick : FnOk P w K mg base (L2.CX P w) 1 (He.ga K "_law_pick") fd__law_pick ["state", "many"] (p__law_pick K) := ok__law_pick T F__law_pick
  have sc := sc__law_stranger
  refine F.ok sc (fun vs H Q E h => ?_) (fun cdv A outer s H vs Q E hr h => ?_)
  · obtain ⟨g, p, z, B, o, ss, _⟩ := h
    exact (Paired.length ss).trans rfl
  · obtain ⟨⟨state, size⟩, p0, z, B, o, ss, ex, h1, h2, h3, h4, hm, k⟩ := h
    obtain ⟨v0, v1, rfl, z0, z1⟩ := pn2 ss
    cases (show _ = V.ref p0 from z0)
    refine ⟨_, (pss_one (ps_ret (pe_ix (ixl (K := K) rfl) (pe_lst (pa_cons (pv 1) (pa_cons (pe_un un_neg pe_int) (pa_cons (pe_op op_add (pe_op op_add (pv 1) pe_int) (pe_call G__law_pick (hr.mono (by decide)) (by rfl) T.m__law_pick F__law_pick.kp b__law_pick .nil passL (pa_cons (pv 0) (pa_cons pe_int pa_nil)))) (pa_cons (pe_op op_sub (pe_un un_neg pe_int) (pe_call G__law_pick (hr.mono (by decide)) (by rfl) T.m__law_pick F__law_pick.kp b__law_pick .nil passL (pa_cons (pv 0) (pa_cons pe_int pa_nil)))) pa_nil))))) (pe_call G__law_pick (hr.mono (by decide)) (by rfl) T.m__law_pick F__law_pick.kp b__law_pick .nil passL (pa_cons (pv 0) (pa_cons pe_int pa_nil))) (fun _ _ => rfl)))), ?_⟩
    have w := Wd.start1 (K := K) ex h1 h2 h3 h4
    unfold m__law_stranger at hm
    obtain ⟨⟨r1, state3⟩, e2, hm⟩ := ob hm
    try dsimp only at hm
    obtain ⟨⟨r4, state6⟩, e5, hm⟩ := ob hm
    try dsimp only at hm
    obtain ⟨⟨r7, state9⟩, e8, hm⟩ := ob hm
    try dsimp only at hm
    obtain ⟨t10, e11, hm⟩ := ob hm
    refine s_ret w (ev_ix (ev_lst (R := rInt) (xs := [size, (-(1 : Int)), ((size + (1 : Int)) + r1), ((-(2 : Int)) - r4)]) (ea_cons (ev_var (S := rInt.s K size) rfl z1) (ea_cons (ev_neg ev_int) (ea_cons (ev_add (ev_add (ev_var (S := rInt.s K size) rfl z1) ev_int) ((ev_call1 (g := (state, (20 : Int))) 0 rfl (ea_cons (ev_var (S := SA p0) rfl rfl) (ea_cons ev_int ea_nil)) rfl (al_p (fun a z => List.mem_of_mem_eraseIdx z) (al_p (fun a z => List.mem_of_mem_eraseIdx z) al_nil)) e2 (csi (imm_flat _))).le g_s)) (ea_cons (ev_sub (ev_neg ev_int) ((ev_call1 (g := (state3, (9 : Int))) 0 rfl (ea_cons (ev_var (S := SA p0) rfl rfl) (ea_cons ev_int ea_nil)) rfl (al_p (fun a z => List.mem_of_mem_eraseIdx z) (al_p (fun a z => List.mem_of_mem_eraseIdx z) al_nil)) e5 (csi (imm_flat _))).le g_s)) ea_nil)))) (by show 4 ≤ 1000; decide)) ((ev_call1 (g := (state6, (4 : Int))) 0 rfl (ea_cons (ev_var (S := SA p0) rfl rfl) (ea_cons ev_int ea_nil)) rfl (al_p (fun a z => List.mem_of_mem_eraseIdx z) (al_p (fun a z => List.mem_of_mem_eraseIdx z) al_nil)) e8 (csi (imm_flat _))).le g_s) src_n e11) (fun vv B12 H12 x12 w12 hv => ?_)
    cases hm
    obtain ⟨oz, gz1, _, gz3, gz4⟩ := w12.cell.get (i := 0) rfl rfl
    exact k _ _ _ oz w12.st w12.ex gz1 gz3 gz4 ((imm_flat _) _ _ _ _ _ hv)
def m__law_whole : Int → Option (Bool) := fun thing =>
  some (true && (!false))
def p__law_whole (K : Fg) : Sp := Pr0 K (fun (g : Int) => [rInt.s K g]) m__law_whole rBool
abbrev N__law_whole : List Str := ["thing"]
theorem sc__law_whole : FnScope N__law_whole ["thing"] (defScope s__law_whole) := ⟨rfl, rfl, rfl, by decide +kernel, rfl, by decide +kernel, by decide +kernel⟩
theorem ok__law_whole {P : Program} {w : World} {K : Fg} {mg : Str → Option Value} {base : Heap} (T : Tx P K mg) {fd : FuncData} (F : FnP K "_law_whole" s__law_whole (He.ga K "_law_whole") fd) : FnOk P w K mg base (L2.CX P w) 1 (He.ga K "_law_whole") fd ["thing"] (p__law_whole K) := by
  have sc := sc__law_whole
  refine F.ok sc (fun vs H Q E h => ?_) (fun cdv A outer s H vs Q E hr h => ?_)
  · obtain ⟨g, z, B, ss, _⟩ := h
    exact (Paired.length ss).trans rfl
  · obtain ⟨thing, z, B, ss, ex, hm, k⟩ := h
    obtain ⟨v0, rfl, z0⟩ := pn1 ss
    refine ⟨_, (pss_one (ps_ret (pe_and (pe_callB (cisi (K := K) rfl) (by rfl) T.b_isinstance (by decide +kernel) (pa_cons (pv 0) (pa_cons (pe_bltn (v := .ty "int") (by rfl) T.b_int (by decide +kernel) rfl) pa_nil))) (pe_one (pe_not (pe_callB (cisi (K := K) rfl) (by rfl) T.b_isinstance (by decide +kernel) (pa_cons (pv 0) (pa_cons (pe_bltn (v := .ty "bool") (by rfl) T.b_bool (by decide +kernel) rfl) pa_nil)))))))), ?_⟩
    have w := Wd.start (K := K) ex
    unfold m__law_whole at hm
    refine s_ret w (ev_andV (ev_isi_int (ev_var (S := rInt.s K thing) rfl z0) (b := true) (by decide +kernel)) (fun _ => (ev_notV (ev_isi_int (ev_var (S := rInt.s K thing) rfl z0) (b := false) (by decide +kernel)))) (fun _ => rfl)) (fun vv B1 H1 x1 w1 hv => ?_)
    cases hm
    exact k _ _ _ w1.st w1.ex ((imm_flat _) _ _ _ _ _ hv)
def m__law_same : (List Int) × (List Int) → Option (Bool) := fun (told, due) =>
  cond ((!true) || (!decide ((told.length : Int) = (due.length : Int)))) (some false) ((rngO (0 : Int) (due.length : Int)).bind fun xs3 =>
  finK (fun (_ : Unit) => (some true)) (fun (tt : Bool) => some tt) (forL (fun (x_k6 : Int) (_ : Unit) => ((atI told x_k6).bind fun t7 =>
  (m__law_whole t7).bind fun r9 =>
  (cond (!r9) (some true) ((atI told x_k6).bind fun t11 => (atI due x_k6).bind fun t13 => some (!decide (t11 = t13)))).bind fun b15 =>
  cond b15 (some (.rt false)) (some (.nx ())) : Option (Ctl Unit Bool))) xs3 ()))
def p__law_same (K : Fg) : Sp := Pr0 K (fun (g : (List Int) × (List Int)) => [(rLst rInt).s K g.1, (rLst rInt).s K g.2]) m__law_same rBool
abbrev N__law_same : List Str := ["told", "due", "k"]
theorem sc__law_same : FnScope N__law_same ["told", "due"] (defScope s__law_same) := ⟨rfl, rfl, rfl, by decide +kernel, rfl, by decide +kernel, by decide +kernel⟩
theorem ok__law_same {P : Program} {w : World} {K : Fg} {mg : Str → Option Value} {base : Heap} (T : Tx P K mg) {fd : FuncData} (F : FnP K "_law_same" s__law_same (He.ga K "_law_same") fd) : FnOk P w K mg base (L2.CX P w) 2 (He.ga K "_law_same") fd ["told", "due"] (p__law_same K) := by
  obtain ⟨fd__law_whole, F__law_whole⟩ := T.f__law_whole
  have b__law_whole : Binds K fd__law_whole ["thing"] [] := F__law_whole.bindsN fun _ _ _ _ _ _ us hl => match us, hl with | [_], _ => rfl
  have G__law_whole : FnOk P w K mg base (L2.CX P w) 1 (He.ga K "_law_whole") fd__law_whole ["thing"] (p__law_whole K) := ok__law_whole T F__law_whole
  have sc := sc__law_same
  refine F.ok sc (fun vs H Q E h => ?_) (fun cdv A outer s H vs Q E hr h => ?_)
  · obtain ⟨g, z, B, ss, _⟩ := h
    exact (Paired.length ss).trans rfl
  · obtain ⟨⟨told, due⟩, z, B, ss, ex, hm, k⟩ := h
    obtain ⟨v0, v1, rfl, z0, z1⟩ := pn2 ss
    refine ⟨_, (pss_cons (ps_if (PW.pt (pw_or (pt_not (pt_val (pe_callB (cisi (K := K) rfl) (by rfl) T.b_isinstance (by decide +kernel) (pa_cons (pv 0) (pa_cons (pe_bltn (v := .ty "list") (by rfl) T.b_list (by decide +kernel) rfl) pa_nil))))) (pw_or1 (pt_cmpR op_ne (pe_callB (clen (K := K) rfl) (by rfl) T.b_len (by decide +kernel) (pa_cons (pv 0) pa_nil)) (pe_callB (clen (K := K) rfl) (by rfl) T.b_len (by decide +kernel) (pa_cons (pv 1) pa_nil)) (nomark _))))) (pss_one (ps_ret pe_bl)) pss_nil) (pss_cons (ps_for (passes_of rfl) rfl (pi_range1 (by rfl) T.b_range (pa_cons (pe_callB (clen (K := K) rfl) (by rfl) T.b_len (by decide +kernel) (pa_cons (pv 1) pa_nil)) pa_nil)) (pg_name (i := 2) sc.nd rfl (Or.inl rfl)) (pss_one (ps_if (PW.pt (pw_or (pt_not (pt_val (pe_call G__law_whole (hr.mono (by decide)) (by rfl) T.m__law_whole F__law_whole.kp b__law_whole .nil passL (pa_cons (pe_ix (ixl (K := K) rfl) (pv 0) (pv 2) (fun _ _ => rfl)) pa_nil)))) (pw_or1 (pt_cmpR op_ne (pe_ix (ixl (K := K) rfl) (pv 0) (pv 2) (fun _ _ => rfl)) (pe_ix (ixl (K := K) rfl) (pv 1) (pv 2) (fun _ _ => rfl)) (nomark _))))) (pss_one (ps_ret pe_bl)) pss_nil))) (pss_one (ps_ret pe_bl)))), ?_⟩
    have w := Wd.start (K := K) ex
    unfold m__law_same at hm
    try dsimp only
    refine s_if w (et_or (et_not (et_B (ev_isi_list (ev_var (S := (rLst rInt).s K told) rfl z0) src_p (b := true) (by decide +kernel)))) (fun _ => (et_test (ev_neI (ev_len (ev_var (S := (rLst rInt).s K told) rfl z0) src_p) (ev_len (ev_var (S := (rLst rInt).s K due) rfl z1) src_p)))) (fun _ => rfl)) (fun hb B1 H1 x1 w1 => ?_) (fun hb B1 H1 x1 w1 => ?_)
    · have hm := it hb hm
      refine s_ret w1 ev_bl (fun vv B2 H2 x2 w2 hv => ?_)
      cases hm
      exact k _ _ _ w2.st w2.ex ((imm_flat _) _ _ _ _ _ hv)
    · have hm := ie hb hm
      obtain ⟨xs3, e4, hm⟩ := ob hm
      refine s_for (R := rInt) (oo := (fun (rr : Unit) => [])) (ρ0 := ()) (fun (x_k6 : Int) (_ : Unit) => ((atI told x_k6).bind fun t7 =>
(m__law_whole t7).bind fun r9 =>
(cond (!r9) (some true) ((atI told x_k6).bind fun t11 => (atI due x_k6).bind fun t13 => some (!decide (t11 = t13)))).bind fun b15 =>
cond b15 (some (.rt false)) (some (.nx ())) : Option (Ctl Unit Bool))) (fun (_ : Unit) σ' B' => ∃ o_2 : Option V, σ' = [some v0, some v1, o_2]) (fun zz => finK _ _ zz = some _) w1 (ei_r1 (ev_len (ev_var (S := (rLst rInt).s K due) rfl (Sv.mono _ x1 z1)) src_p) e4) (fun rr σ' B1 B2 e ⟨o_2, hσ⟩ => ⟨o_2, hσ⟩) (fun B2 e => ⟨_, rfl⟩) hm ?_ ?_
      · rintro x_k6 rst rr vx5 σ' Bt5 Ht5 xt5 wt5 ⟨o_2t5, rfl⟩ hx5 hf N hN dn
        dsimp only [gName]
        obtain ⟨ctl, hfx, hbk5, hrt5⟩ := forL_step hf
        have hm := hfx
        obtain ⟨t7, e8, hm⟩ := ob hm
        obtain ⟨r9, e10, hm⟩ := ob hm
        obtain ⟨b15, e16, hm⟩ := ob hm
        try dsimp only
        refine s_if wt5 (et_orO (b := b15) (et_not (et_B ((ev_call0 (g := t7) (ea_cons (ev_ix (ev_var (S := (rLst rInt).s K told) rfl (Sv.mono _ xt5 (Sv.mono _ x1 z0))) (ev_var (S := rInt.s K x_k6) rfl hx5) src_p e8) ea_nil) (al_p (fun _ z => z) al_nil) e10).le g_s))) (fun hc => by have e16 := ie hc e16; obtain ⟨t11, e12, e16⟩ := ob e16; obtain ⟨t13, e14, e16⟩ := ob e16; have hq_ := Option.some.inj e16; subst hq_; exact (et_test (ev_neI (ev_ix (ev_var (S := (rLst rInt).s K told) rfl (Sv.mono _ xt5 (Sv.mono _ x1 z0))) (ev_var (S := rInt.s K x_k6) rfl hx5) src_p e12) (ev_ix (ev_var (S := (rLst rInt).s K due) rfl (Sv.mono _ xt5 (Sv.mono _ x1 z1))) (ev_var (S := rInt.s K x_k6) rfl hx5) src_p e14)))) (fun hc => by have e16 := it hc e16; cases e16; exact ⟨rfl, rfl⟩)) (fun hb B17 H17 x17 w17 => ?_) (fun hb B17 H17 x17 w17 => ?_)
        · have hm := it hb hm
          refine s_ret w17 ev_bl (fun vv B18 H18 x18 w18 hv => ?_)
          cases hm
          replace hm := hrt5 _ rfl
          cases hm
          exact k _ _ _ w18.st w18.ex ((imm_flat _) _ _ _ _ _ hv)
        · have hm := ie hb hm
          have hq_ := Option.some.inj hm
          subst hq_
          exact hN () _ _ _ hfx x17 w17 ⟨_, rfl⟩
      · rintro rr σ' B19 H19 x19 w19 ⟨o_2k20, rfl⟩ hm
        try dsimp only
        replace hm := finK_nx hm
        refine s_ret w19 ev_bl (fun vv B21 H21 x21 w21 hv => ?_)
        cases hm
        exact k _ _ _ w21.st w21.ex ((imm_flat _) _ _ _ _ _ hv)
def m__law_same_rows : (List (List Int)) × (List (List Int)) → Option (Bool) := fun (told, due) =>
  cond ((!true) || (!decide ((told.length : Int) = (due.length : Int)))) (some false) ((rngO (0 : Int) (due.length : Int)).bind fun xs3 =>
  finK (fun (_ : Unit) => (some true)) (fun (tt : Bool) => some tt) (forL (fun (x_k6 : Int) (_ : Unit) => ((atI told x_k6).bind fun t7 =>
  (atI due x_k6).bind fun t9 =>
  (m__law_same (t7, t9)).bind fun r11 =>
  cond (!r11) (some (.rt false)) (some (.nx ())) : Option (Ctl Unit Bool))) xs3 ()))
def p__law_same_rows (K : Fg) : Sp := Pr0 K (fun (g : (List (List Int)) × (List (List Int))) => [(rLst (rLst rInt)).s K g.1, (rLst (rLst rInt)).s K g.2]) m__law_same_rows rBool
abbrev N__law_same_rows : List Str := ["told", "due", "k"]
theorem sc__law_same_rows : FnScope N__law_same_rows ["told", "due"] (defScope s__law_same_rows) := ⟨rfl, rfl, rfl, by decide +kernel, rfl, by decide +kernel, by decide +kernel⟩
theorem ok__law_same_rows {P : Program} {w : World} {K : Fg} {mg : Str → Option Value} {base : Heap} (T : Tx P K mg) {fd : FuncData} (F : FnP K "_law_same_rows" s__law_same_rows (He.ga K "_law_same_rows") fd) : FnOk P w K mg base (L2.CX P w) 3 (He.ga K "_law_same_rows") fd ["told", "due"] (p__law_same_rows K) := by
  obtain ⟨fd__law_same, F__law_same⟩ := T.f__law_same
  have b__law_same : Binds K fd__law_same ["told", "due"] [] := F__law_same.bindsN fun _ _ _ _ _ _ us hl => match us, hl with | [_, _], _ => rfl
  have G__law_same : FnOk P w K mg base (L2.CX P w) 2 (He.ga K "_law_same") fd__law_same ["told", "due"] (p__law_same K) := ok__law_same T F__law_same
  have sc := sc__law_same_rows
  refine F.ok sc (fun vs H Q E h => ?_) (fun cdv A outer s H vs Q E hr h => ?_)
  · obtain ⟨g, z, B, ss, _⟩ := h
    exact (Paired.length ss).trans rfl
  · obtain ⟨⟨told, due⟩, z, B, ss, ex, hm, k⟩ := h
    obtain ⟨v0, v1, rfl, z0, z1⟩ := pn2 ss
    refine ⟨_, (pss_cons (ps_if (PW.pt (pw_or (pt_not (pt_val (pe_callB (cisi (K := K) rfl) (by rfl) T.b_isinstance (by decide +kernel) (pa_cons (pv 0) (pa_cons (pe_bltn (v := .ty "list") (by rfl) T.b_list (by decide +kernel) rfl) pa_nil))))) (pw_or1 (pt_cmpR op_ne (pe_callB (clen (K := K) rfl) (by rfl) T.b_len (by decide +kernel) (pa_cons (pv 0) pa_nil)) (pe_callB (clen (K := K) rfl) (by rfl) T.b_len (by decide +kernel) (pa_cons (pv 1) pa_nil)) (nomark _))))) (pss_one (ps_ret pe_bl)) pss_nil) (pss_cons (ps_for (passes_of rfl) rfl (pi_range1 (by rfl) T.b_range (pa_cons (pe_callB (clen (K := K) rfl) (by rfl) T.b_len (by decide +kernel) (pa_cons (pv 1) pa_nil)) pa_nil)) (pg_name (i := 2) sc.nd rfl (Or.inl rfl)) (pss_one (ps_if (pt_not (pt_val (pe_call G__law_same (hr.mono (by decide)) (by rfl) T.m__law_same F__law_same.kp b__law_same .nil passL (pa_cons (pe_ix (ixl (K := K) rfl) (pv 0) (pv 2) (fun _ _ => rfl)) (pa_cons (pe_ix (ixl (K := K) rfl) (pv 1) (pv 2) (fun _ _ => rfl)) pa_nil))))) (pss_one (ps_ret pe_bl)) pss_nil))) (pss_one (ps_ret pe_bl)))), ?_⟩
    have w := Wd.start (K := K) ex
    unfold m__law_same_rows at hm
    try dsimp only
    refine s_if w (et_or (et_not (et_B (ev_isi_list (ev_var (S := (rLst (rLst rInt)).s K told) rfl z0) src_p (b := true) (by decide +kernel)))) (fun _ => (et_test (ev_neI (ev_len (ev_var (S := (rLst (rLst rInt)).s K told) rfl z0) src_p) (ev_len (ev_var (S := (rLst (rLst rInt)).s K due) rfl z1) src_p)))) (fun _ => rfl)) (fun hb B1 H1 x1 w1 => ?_) (fun hb B1 H1 x1 w1 => ?_)
    · have hm := it hb hm
      refine s_ret w1 ev_bl (fun vv B2 H2 x2 w2 hv => ?_)
      cases hm
      exact k _ _ _ w2.st w2.ex ((imm_flat _) _ _ _ _ _ hv)
    · have hm := ie hb hm
      obtain ⟨xs3, e4, hm⟩ := ob hm
      refine s_for (R := rInt) (oo := (fun (rr : Unit) => [])) (ρ0 := ()) (fun (x_k6 : Int) (_ : Unit) => ((atI told x_k6).bind fun t7 =>
(atI due x_k6).bind fun t9 =>
(m__law_same (t7, t9)).bind fun r11 =>
cond (!r11) (some (.rt false)) (some (.nx ())) : Option (Ctl Unit Bool))) (fun (_ : Unit) σ' B' => ∃ o_2 : Option V, σ' = [some v0, some v1, o_2]) (fun zz => finK _ _ zz = some _) w1 (ei_r1 (ev_len (ev_var (S := (rLst (rLst rInt)).s K due) rfl (Sv.mono _ x1 z1)) src_p) e4) (fun rr σ' B1 B2 e ⟨o_2, hσ⟩ => ⟨o_2, hσ⟩) (fun B2 e => ⟨_, rfl⟩) hm ?_ ?_
      · rintro x_k6 rst rr vx5 σ' Bt5 Ht5 xt5 wt5 ⟨o_2t5, rfl⟩ hx5 hf N hN dn
        dsimp only [gName]
        obtain ⟨ctl, hfx, hbk5, hrt5⟩ := forL_step hf
        have hm := hfx
        obtain ⟨t7, e8, hm⟩ := ob hm
        obtain ⟨t9, e10, hm⟩ := ob hm
        obtain ⟨r11, e12, hm⟩ := ob hm
        try dsimp only
        refine s_if wt5 (et_not (et_B ((ev_call0 (g := (t7, t9)) (ea_cons (ev_ix (ev_var (S := (rLst (rLst rInt)).s K told) rfl (Sv.mono _ xt5 (Sv.mono _ x1 z0))) (ev_var (S := rInt.s K x_k6) rfl hx5) src_p e8) (ea_cons (ev_ix (ev_var (S := (rLst (rLst rInt)).s K due) rfl (Sv.mono _ xt5 (Sv.mono _ x1 z1))) (ev_var (S := rInt.s K x_k6) rfl hx5) src_p e10) ea_nil)) (al_p (fun _ z => z) (al_p (fun _ z => z) al_nil)) e12).le g_s))) (fun hb B13 H13 x13 w13 => ?_) (fun hb B13 H13 x13 w13 => ?_)
        · have hm := it hb hm
          refine s_ret w13 ev_bl (fun vv B14 H14 x14 w14 hv => ?_)
          cases hm
          replace hm := hrt5 _ rfl
          cases hm
          exact k _ _ _ w14.st w14.ex ((imm_flat _) _ _ _ _ _ hv)
        · have hm := ie hb hm
          have hq_ := Option.some.inj hm
          subst hq_
          exact hN () _ _ _ hfx x13 w13 ⟨_, rfl⟩
      · rintro rr σ' B15 H15 x15 w15 ⟨o_2k16, rfl⟩ hm
        try dsimp only
        replace hm := finK_nx hm
        refine s_ret w15 ev_bl (fun vv B17 H17 x17 w17 hv => ?_)
        cases hm
        exact k _ _ _ w17.st w17.ex ((imm_flat _) _ _ _ _ _ hv)
def m__law_copy : (List (List Int)) → Option (List (List Int)) := fun table =>
  (lcO (fun (row : List Int) (rr : Unit) => match rr with | () => some (true, ())) (fun (row : List Int) (rr : Unit) => match rr with | () => some (row, ())) table ()).bind fun (ys1, _) =>
  some ys1
def p__law_copy (K : Fg) : Sp := Pr0 K (fun (g : (List (List Int))) => [(rLst (rLst rInt)).s K g]) m__law_copy rLL
abbrev N__law_copy : List Str := ["table", "row"]
theorem sc__law_copy : FnScope N__law_copy ["table"] (defScope s__law_copy) := ⟨rfl, rfl, rfl, by decide +kernel, rfl, by decide +kernel, by decide +kernel⟩
theorem ok__law_copy {P : Program} {w : World} {K : Fg} {mg : Str → Option Value} {base : Heap} (T : Tx P K mg) {fd : FuncData} (F : FnP K "_law_copy" s__law_copy (He.ga K "_law_copy") fd) : FnOk P w K mg base (L2.CX P w) 1 (He.ga K "_law_copy") fd ["table"] (p__law_copy K) := by
  have sc := sc__law_copy
  refine F.ok sc (fun vs H Q E h => ?_) (fun cdv A outer s H vs Q E hr h => ?_)
  · obtain ⟨g, z, B, ss, _⟩ := h
    exact (Paired.length ss).trans rfl
  · obtain ⟨table, z, B, ss, ex, hm, k⟩ := h
    obtain ⟨v0, rfl, z0⟩ := pn1 ss
    refine ⟨_, (pss_one (ps_ret (pe_lc (own := [("row", 1)]) (g := (gName 1)) (by rfl) sc.nd (pi_list (pv 0)) (blkOk_by (own := [("row", 1)]) (N := N__law_copy) (sc := defScope s__law_copy) (by decide +kernel)) (fun _ _ _ _ _ => pg_name (i := 1) sc.nd rfl (Or.inl rfl)) (fun _ _ _ _ _ => pts_nil) (fun _ _ _ _ _ => (pe_callTy (clst (K := K) rfl) (by rfl) T.b_list (by decide +kernel) (pa_cons (pv 1) pa_nil)))))), ?_⟩
    have w := Wd.start (K := K) ex
    unfold m__law_copy at hm
    obtain ⟨⟨ys1, _⟩, e2, hm⟩ := ob hm
    try dsimp only at hm
    refine s_ret w (ev_lcF (R := (rLst rInt)) (oo := (fun (rr : Unit) => [])) (fun (row : List Int) (rr : Unit) => match rr with | () => some (true, ())) (fun (row : List Int) (rr : Unit) => match rr with | () => some (row, ())) (lcT (rLst rInt) K _ 1 [1]) (ei_list (ev_var (S := (rLst (rLst rInt)).s K table) rfl z0)) e2 (lcT_mono _ _ _ _ _) (lcT_name rfl 1 [1] (by intro x; rfl)) (fun row rr bb r1 σ2 B' pD acc ht eB ⟨vx, hσ, hx⟩ => by cases ht; exact et_yes) (fun Hh row rr yy r1 σ2 B' pD acc he eB ⟨vx, hσ, hx⟩ => by subst hσ; cases he; exact (ev_list (ev_var (S := (rLst rInt).s K row) rfl hx) src_p))) (fun vv B3 H3 x3 w3 hv => ?_)
    cases hm
    exact k _ _ _ w3.st w3.ex (r_f w hv)
def m__law_after : (List ((List Int) × Int)) × Int → Option (Int) := fun (tops, gate) =>
  (rngO (0 : Int) (tops.length : Int)).bind fun xs1 =>
  finK (fun (_ : Unit) => (some (-(1 : Int)))) (fun (tt : Int) => some tt) (forL (fun (x_k4 : Int) (_ : Unit) => ((atI tops x_k4).bind fun t5 =>
  cond (decide (gate ∈ t5.1)) (some (.rt x_k4)) (some (.nx ())) : Option (Ctl Unit Int))) xs1 ())
def p__law_after (K : Fg) : Sp := Pr0 K (fun (g : (List ((List Int) × Int)) × Int) => [(rLst (rT2 (rTpl rInt) rInt)).s K g.1, rInt.s K g.2]) m__law_after rInt
abbrev N__law_after : List Str := ["tops", "gate", "k"]
theorem sc__law_after : FnScope N__law_after ["tops", "gate"] (defScope s__law_after) := ⟨rfl, rfl, rfl, by decide +kernel, rfl, by decide +kernel, by decide +kernel⟩
theorem ok__law_after {P : Program} {w : World} {K : Fg} {mg : Str → Option Value} {base : Heap} (T : Tx P K mg) {fd : FuncData} (F : FnP K "_law_after" s__law_after (He.ga K "_law_after") fd) : FnOk P w K mg base (L2.CX P w) 1 (He.ga K "_law_after") fd ["tops", "gate"] (p__law_after K) := by
  have sc := sc__law_after
  refine F.ok sc (fun vs H Q E h => ?_) (fun cdv A outer s H vs Q E hr h => ?_)
  · obtain ⟨g, z, B, ss, _⟩ := h
    exact (Paired.length ss).trans rfl
  · obtain ⟨⟨tops, gate⟩, z, B, ss, ex, hm, k⟩ := h
    obtain ⟨v0, v1, rfl, z0, z1⟩ := pn2 ss
    refine ⟨_, (pss_cons (ps_for (passes_of rfl) rfl (pi_range1 (by rfl) T.b_range (pa_cons (pe_callB (clen (K := K) rfl) (by rfl) T.b_len (by decide +kernel) (pa_cons (pv 0) pa_nil)) pa_nil)) (pg_name (i := 2) sc.nd rfl (Or.inl rfl)) (pss_one (ps_if (pt_cmpR (opin (K := K) rfl) (pv 1) (pe_ix (ixt (K := K) rfl) (pe_ix (ixl (K := K) rfl) (pv 0) (pv 2) (fun _ _ => rfl)) pe_int (fun _ _ => rfl)) (by rfl)) (pss_one (ps_ret (pv 2))) pss_nil))) (pss_one (ps_ret (pe_un un_neg pe_int)))), ?_⟩
    have w := Wd.start (K := K) ex
    unfold m__law_after at hm
    obtain ⟨xs1, e2, hm⟩ := ob hm
    refine s_for (R := rInt) (oo := (fun (rr : Unit) => [])) (ρ0 := ()) (fun (x_k4 : Int) (_ : Unit) => ((atI tops x_k4).bind fun t5 =>
cond (decide (gate ∈ t5.1)) (some (.rt x_k4)) (some (.nx ())) : Option (Ctl Unit Int))) (fun (_ : Unit) σ' B' => ∃ o_2 : Option V, σ' = [some v0, some v1, o_2]) (fun zz => finK _ _ zz = some _) w (ei_r1 (ev_len (ev_var (S := (rLst (rT2 (rTpl rInt) rInt)).s K tops) rfl z0) src_p) e2) (fun rr σ' B1 B2 e ⟨o_2, hσ⟩ => ⟨o_2, hσ⟩) (fun B2 e => ⟨_, rfl⟩) hm ?_ ?_
    · rintro x_k4 rst rr vx3 σ' Bt3 Ht3 xt3 wt3 ⟨o_2t3, rfl⟩ hx3 hf N hN dn
      dsimp only [gName]
      obtain ⟨ctl, hfx, hbk3, hrt3⟩ := forL_step hf
      have hm := hfx
      obtain ⟨t5, e6, hm⟩ := ob hm
      try dsimp only
      refine s_if wt3 (et_test (ev_inT (ev_var (S := rInt.s K gate) rfl (Sv.mono _ xt3 z1)) (ev_T2a (ev_ix (ev_var (S := (rLst (rT2 (rTpl rInt) rInt)).s K tops) rfl (Sv.mono _ xt3 z0)) (ev_var (S := rInt.s K x_k4) rfl hx3) src_p e6)))) (fun hb B7 H7 x7 w7 => ?_) (fun hb B7 H7 x7 w7 => ?_)
      · have hm := it hb hm
        refine s_ret w7 (ev_var (S := rInt.s K x_k4) rfl (Sv.mono _ x7 hx3)) (fun vv B8 H8 x8 w8 hv => ?_)
        cases hm
        replace hm := hrt3 _ rfl
        cases hm
        exact k _ _ _ w8.st w8.ex ((imm_flat _) _ _ _ _ _ hv)
      · have hm := ie hb hm
        have hq_ := Option.some.inj hm
        subst hq_
        exact hN () _ _ _ hfx x7 w7 ⟨_, rfl⟩
    · rintro rr σ' B9 H9 x9 w9 ⟨o_2k10, rfl⟩ hm
      try dsimp only
      replace hm := finK_nx hm
      refine s_ret w9 (ev_neg ev_int) (fun vv B11 H11 x11 w11 hv => ?_)
      cases hm
      exact k _ _ _ w11.st w11.ex ((imm_flat _) _ _ _ _ _ hv)
def m__law_circle : (List ((List Int) × Int)) → Option (List Int) := fun tops =>
  (rngO (0 : Int) (tops.length : Int)).bind fun xs1 =>
  finK (fun (_ : Unit) => (some ([] : List Int))) (fun (tt : List Int) => some tt) (forL (fun (first4 : Int) (_ : Unit) => ((rngO (0 : Int) (tops.length : Int)).bind fun xs8 =>
  finK (fun (row10 : (List Int)) => (some (.nx ()))) (fun (tt : List Int) => some (.rt tt)) (forL (fun (turn12 : Int) (row10 : (List Int)) => ((atI row10 (-(1 : Int))).bind fun t13 =>
  (atI tops t13).bind fun t15 =>
  (m__law_after (tops, t15.2)).bind fun r17 =>
  cond (decide (r17 = first4)) (some (.rt row10)) (cond ((decide (r17 < (0 : Int))) || (decide (r17 ∈ row10))) (some (.bk row10)) ((appO row10 r17).bind fun row26 =>
  some (.nx row26))) : Option (Ctl (List Int) (List Int)))) xs8 [first4]) : Option (Ctl Unit (List Int)))) xs1 ())
def p__law_circle (K : Fg) : Sp := Pr0 K (fun (g : (List ((List Int) × Int))) => [(rLst (rT2 (rTpl rInt) rInt)).s K g]) m__law_circle (rLst rInt)
abbrev N__law_circle : List Str := ["tops", "first", "row", "turn", "at"]
theorem sc__law_circle : FnScope N__law_circle ["tops"] (defScope s__law_circle) := ⟨rfl, rfl, rfl, by decide +kernel, rfl, by decide +kernel, by decide +kernel⟩
theorem ok__law_circle {P : Program} {w : World} {K : Fg} {mg : Str → Option Value} {base : Heap} (T : Tx P K mg) {fd : FuncData} (F : FnP K "_law_circle" s__law_circle (He.ga K "_law_circle") fd) : FnOk P w K mg base (L2.CX P w) 2 (He.ga K "_law_circle") fd ["tops"] (p__law_circle K) := by
  obtain ⟨fd__law_after, F__law_after⟩ := T.f__law_after
  have b__law_after : Binds K fd__law_after ["tops", "gate"] [] := F__law_after.bindsN fun _ _ _ _ _ _ us hl => match us, hl with | [_, _], _ => rfl
  have G__law_after : FnOk P w K mg base (L2.CX P w) 1 (He.ga K "_law_after") fd__law_after ["tops", "gate"] (p__law_after K) := ok__law_after T F__law_after
  have sc := sc__law_circle
  refine F.ok sc (fun vs H Q E h => ?_) (fun cdv A outer s H vs Q E hr h => ?_)
  · obtain ⟨g, z, B, ss, _⟩ := h
    exact (Paired.length ss).trans rfl
  · obtain ⟨tops, z, B, ss, ex, hm, k⟩ := h
    obtain ⟨v0, rfl, z0⟩ := pn1 ss
    refine ⟨_, (pss_cons (ps_for (passes_of rfl) rfl (pi_range1 (by rfl) T.b_range (pa_cons (pe_callB (clen (K := K) rfl) (by rfl) T.b_len (by decide +kernel) (pa_cons (pv 0) pa_nil)) pa_nil)) (pg_name (i := 1) sc.nd rfl (Or.inl rfl)) (pss_cons (ps_set (i := 2) sc.nd rfl (Or.inl rfl) (pe_lst (pa_cons (pv 1) pa_nil))) (pss_one (ps_for (passes_of rfl) rfl (pi_range1 (by rfl) T.b_range (pa_cons (pe_callB (clen (K := K) rfl) (by rfl) T.b_len (by decide +kernel) (pa_cons (pv 0) pa_nil)) pa_nil)) (pg_name (i := 3) sc.nd rfl (Or.inl rfl)) (pss_cons (ps_set (i := 4) sc.nd rfl (Or.inl rfl) (pe_call G__law_after (hr.mono (by decide)) (by rfl) T.m__law_after F__law_after.kp b__law_after .nil passL (pa_cons (pv 0) (pa_cons (pe_ix (ixt (K := K) rfl) (pe_ix (ixl (K := K) rfl) (pv 0) (pe_ix (ixl (K := K) rfl) (pv 2) (pe_un un_neg pe_int) (fun _ _ => rfl)) (fun _ _ => rfl)) pe_int (fun _ _ => rfl)) pa_nil)))) (pss_cons (ps_if (pt_cmpR op_eq (pv 4) (pv 1) (nomark _)) (pss_one (ps_ret (pv 2))) pss_nil) (pss_cons (ps_if (PW.pt (pw_or (pt_cmpR op_lt (pv 4) pe_int (nomark _)) (pw_or1 (pt_cmpR (opin (K := K) rfl) (pv 4) (pv 2) (by rfl))))) (pss_one ps_break) pss_nil) (pss_one (ps_expr (pe_bm PySem.F.plainAttrs_list PySem.F.slot_list_append PySem.F.type_list_append mt_append (pv 2) (pa_cons (pv 4) pa_nil))))))))))) (pss_one (ps_ret (pe_lst pa_nil)))), ?_⟩
    have w := Wd.start (K := K) ex
    unfold m__law_circle at hm
    obtain ⟨xs1, e2, hm⟩ := ob hm
    refine s_for (R := rInt) (oo := (fun (rr : Unit) => [])) (ρ0 := ()) (fun (first4 : Int) (_ : Unit) => ((rngO (0 : Int) (tops.length : Int)).bind fun xs8 =>
finK (fun (row10 : (List Int)) => (some (.nx ()))) (fun (tt : List Int) => some (.rt tt)) (forL (fun (turn12 : Int) (row10 : (List Int)) => ((atI row10 (-(1 : Int))).bind fun t13 =>
(atI tops t13).bind fun t15 =>
(m__law_after (tops, t15.2)).bind fun r17 =>
cond (decide (r17 = first4)) (some (.rt row10)) (cond ((decide (r17 < (0 : Int))) || (decide (r17 ∈ row10))) (some (.bk row10)) ((appO row10 r17).bind fun row26 =>
some (.nx row26))) : Option (Ctl (List Int) (List Int)))) xs8 [first4]) : Option (Ctl Unit (List Int)))) (fun (_ : Unit) σ' B' => ∃ o_1 : Option V, ∃ o_2 : Option V, ∃ o_3 : Option V, ∃ o_4 : Option V, σ' = [some v0, o_1, o_2, o_3, o_4]) (fun zz => finK _ _ zz = some _) w (ei_r1 (ev_len (ev_var (S := (rLst (rT2 (rTpl rInt) rInt)).s K tops) rfl z0) src_p) e2) (fun rr σ' B1 B2 e ⟨o_1, o_2, o_3, o_4, hσ⟩ => ⟨o_1, o_2, o_3, o_4, hσ⟩) (fun B2 e => ⟨_, _, _, _, rfl⟩) hm ?_ ?_
    · rintro first4 rst rr vx3 σ' Bt3 Ht3 xt3 wt3 ⟨o_1t3, o_2t3, o_3t3, o_4t3, rfl⟩ hx3 hf N hN dn
      dsimp only [gName]
      obtain ⟨ctl, hfx, hbk3, hrt3⟩ := forL_step hf
      have hm := hfx
      refine s_own wt3 (ev_lst (R := rInt) (xs := [first4]) (ea_cons (ev_var (S := rInt.s K first4) rfl hx3) ea_nil) (by show 1 ≤ 1000; decide)) (imm_flat _) trivial (fun q6 B5 H5 x5 n7 w5 => ?_)
      obtain ⟨xs8, e9, hm⟩ := ob hm
      refine s_for (R := rInt) (oo := (fun (rr : (List Int)) => [CL rInt K rr])) (ρ0 := [first4]) (fun (turn12 : Int) (row10 : (List Int)) => ((atI row10 (-(1 : Int))).bind fun t13 =>
(atI tops t13).bind fun t15 =>
(m__law_after (tops, t15.2)).bind fun r17 =>
cond (decide (r17 = first4)) (some (.rt row10)) (cond ((decide (r17 < (0 : Int))) || (decide (r17 ∈ row10))) (some (.bk row10)) ((appO row10 r17).bind fun row26 =>
some (.nx row26))) : Option (Ctl (List Int) (List Int)))) (fun (rr : (List Int)) σ' B' => ∃ o_3 : Option V, ∃ o_4 : Option V, σ' = [some v0, some vx3, some (.ref q6), o_3, o_4]) (fun zz => finK _ _ zz = some _) w5 (ei_r1 (ev_len (ev_var (S := (rLst (rT2 (rTpl rInt) rInt)).s K tops) rfl (Sv.mono _ x5 (Sv.mono _ xt3 z0))) src_p) e9) (fun rr σ' B1 B2 e ⟨o_3, o_4, hσ⟩ => ⟨o_3, o_4, hσ⟩) (fun B2 e => ⟨_, _, rfl⟩) hm ?_ ?_
      · rintro turn12 rst row10 vx11 σ' Bt11 Ht11 xt11 wt11 ⟨o_3t11, o_4t11, rfl⟩ hx11 hf N hN dn
        dsimp only [gName]
        obtain ⟨ctl, hfx, hbk11, hrt11⟩ := forL_step hf
        have hm := hfx
        obtain ⟨t13, e14, hm⟩ := ob hm
        obtain ⟨t15, e16, hm⟩ := ob hm
        obtain ⟨r17, e18, hm⟩ := ob hm
        refine s_asg wt11 ((ev_call0 (g := (tops, t15.2)) (ea_cons (ev_var (S := (rLst (rT2 (rTpl rInt) rInt)).s K tops) rfl (Sv.mono _ xt11 (Sv.mono _ x5 (Sv.mono _ xt3 z0)))) (ea_cons (ev_T2b (ev_ix (ev_var (S := (rLst (rT2 (rTpl rInt) rInt)).s K tops) rfl (Sv.mono _ xt11 (Sv.mono _ x5 (Sv.mono _ xt3 z0)))) (ev_ix (ev_var (S := SA q6) rfl rfl) (ev_neg ev_int) (src_o (R := rInt) (xs := row10) 0 rfl rfl) e14) src_p e16)) ea_nil)) (al_p (fun _ z => z) (al_p (fun _ z => z) al_nil)) e18).le g_s) (fun w_v20 B19 H19 x19 w19 h21 => ?_)
        try dsimp only
        refine s_if w19 (et_test (ev_eqI (ev_var (S := rInt.s K r17) rfl h21) (ev_var (S := rInt.s K first4) rfl (Sv.mono _ x19 (Sv.mono _ xt11 (Sv.mono _ x5 hx3)))))) (fun hb B22 H22 x22 w22 => ?_) (fun hb B22 H22 x22 w22 => ?_)
        · have hm := it hb hm
          refine s_ret w22 (ev_var (S := SA q6) rfl rfl) (fun vv B23 H23 x23 w23 hv => ?_)
          cases (show vv = _ from hv)
          cases hm
          replace hm := hrt11 _ rfl
          cases hm
          replace hm := hrt3 _ rfl
          cases hm
          obtain ⟨Bz, xz, w24, rz⟩ := r_o w23 n7 (imm_flat _)
          exact k _ _ _ w24.st w24.ex rz
        · have hm := ie hb hm
          try dsimp only
          refine s_if w22 (et_or (et_test (ev_lt (ev_var (S := rInt.s K r17) rfl (Sv.mono _ x22 h21)) ev_int)) (fun _ => (et_test (ev_in (ev_var (S := rInt.s K r17) rfl (Sv.mono _ x22 h21)) (ev_var (S := SA q6) rfl rfl) (src_o (R := rInt) (xs := row10) 0 rfl rfl)))) (fun _ => rfl)) (fun hb B25 H25 x25 w25 => ?_) (fun hb B25 H25 x25 w25 => ?_)
          · have hm := it hb hm
            have hq_ := Option.some.inj hm
            subst hq_
            exact dn _ _ _ _ (((xt11.trans x19).trans x22).trans x25) w25 ⟨_, _, rfl⟩ (hbk11 _ rfl)
          · have hm := ie hb hm
            obtain ⟨row26, e27, hm⟩ := ob hm
            refine s_drop w25 (ev_app 0 rfl (ev_var (S := SA q6) rfl rfl) rfl (ev_var (S := rInt.s K r17) rfl (Sv.mono _ x25 (Sv.mono _ x22 h21))) rfl e27) (fun B28 H28 x28 w28 => ?_)
            have hq_ := Option.some.inj hm
            subst hq_
            exact hN row26 _ _ _ hfx (((x19.trans x22).trans x25).trans x28) w28 ⟨_, _, rfl⟩
      · rintro row10 σ' B29 H29 x29 w29 ⟨o_3k30, o_4k30, rfl⟩ hm
        try dsimp only
        replace hm := finK_nx hm
        have w31 := Wd.rm w29 0
        have hq_ := Option.some.inj hm
        subst hq_
        exact hN () _ _ _ hfx (x5.trans x29) w31 ⟨_, _, _, _, rfl⟩
    · rintro rr σ' B32 H32 x32 w32 ⟨o_1k33, o_2k33, o_3k33, o_4k33, rfl⟩ hm
      try dsimp only
      replace hm := finK_nx hm
      refine s_ret w32 (ev_lst (R := rInt) (xs := []) ea_nil (by decide)) (fun vv B34 H34 x34 w34 hv => ?_)
      cases hm
      exact k _ _ _ w34.st w34.ex (r_n w32 (imm_flat _) hv)
def m__law_union : (List ((List Int) × Int)) × (List Int) → Option (List Int) := fun (tops, row) =>
  finK (fun (places4 : (List Int)) => (some (isort places4))) (fun (_ : Unit) => none) (forL (fun (x_k6 : Int) (places4 : (List Int)) => ((atI tops x_k6).bind fun t7 =>
  (catO places4 t7.1).bind fun t11 =>
  some (.nx t11) : Option (Ctl (List Int) Unit))) row ([] : List Int))
def p__law_union (K : Fg) : Sp := Pr0 K (fun (g : (List ((List Int) × Int)) × (List Int)) => [(rLst (rT2 (rTpl rInt) rInt)).s K g.1, (rLst rInt).s K g.2]) m__law_union (rTpl rInt)
abbrev N__law_union : List Str := ["tops", "row", "places", "k"]
theorem sc__law_union : FnScope N__law_union ["tops", "row"] (defScope s__law_union) := ⟨rfl, rfl, rfl, by decide +kernel, rfl, by decide +kernel, by decide +kernel⟩
theorem ok__law_union {P : Program} {w : World} {K : Fg} {mg : Str → Option Value} {base : Heap} (T : Tx P K mg) {fd : FuncData} (F : FnP K "_law_union" s__law_union (He.ga K "_law_union") fd) : FnOk P w K mg base (L2.CX P w) 1 (He.ga K "_law_union") fd ["tops", "row"] (p__law_union K) := by
  have sc := sc__law_union
  refine F.ok sc (fun vs H Q E h => ?_) (fun cdv A outer s H vs Q E hr h => ?_)
  · obtain ⟨g, z, B, ss, _⟩ := h
    exact (Paired.length ss).trans rfl
  · obtain ⟨⟨tops, row⟩, z, B, ss, ex, hm, k⟩ := h
    obtain ⟨v0, v1, rfl, z0, z1⟩ := pn2 ss
    refine ⟨_, (pss_cons (ps_set (i := 2) sc.nd rfl (Or.inl rfl) (pe_lst pa_nil)) (pss_cons (ps_for (passes_of rfl) rfl (pi_list (pv 1)) (pg_name (i := 3) sc.nd rfl (Or.inl rfl)) (pss_one (ps_set (i := 2) sc.nd rfl (Or.inl rfl) (pe_op op_cat (pv 2) (pe_callTy (clst (K := K) rfl) (by rfl) T.b_list (by decide +kernel) (pa_cons (pe_ix (ixt (K := K) rfl) (pe_ix (ixl (K := K) rfl) (pv 0) (pv 3) (fun _ _ => rfl)) pe_int (fun _ _ => rfl)) pa_nil)))))) (pss_one (ps_ret (pe_callTy (ctup (K := K) rfl) (by rfl) T.b_tuple (by decide +kernel) (pa_cons (pe_callB (csrt (K := K) rfl) (by rfl) T.b_sorted (by decide +kernel) (pa_cons (pv 2) pa_nil)) pa_nil)))))), ?_⟩
    have w := Wd.start (K := K) ex
    unfold m__law_union at hm
    refine s_asg w ((ev_lst (R := rInt) (xs := []) ea_nil (by decide)).le sn_s) (fun w_v2 B1 H1 x1 w1 h3 => ?_)
    refine s_for (R := rInt) (oo := (fun (rr : (List Int)) => [])) (ρ0 := ([] : List Int)) (fun (x_k6 : Int) (places4 : (List Int)) => ((atI tops x_k6).bind fun t7 =>
(catO places4 t7.1).bind fun t11 =>
some (.nx t11) : Option (Ctl (List Int) Unit))) (fun (rr : (List Int)) σ' B' => ∃ v_2 : V, ∃ o_3 : Option V, σ' = [some v0, some v1, some v_2, o_3] ∧ ((rLst rInt).s K rr).p v_2 B') (fun zz => finK _ _ zz = some _) w1 (ei_list (ev_var (S := (rLst rInt).s K row) rfl (Sv.mono _ x1 z1))) (fun rr σ' B1 B2 e ⟨v_2, o_3, hσ, hj0⟩ => ⟨v_2, o_3, hσ, Sv.mono _ e hj0⟩) (fun B2 e => ⟨w_v2, _, rfl, (Sv.mono _ e h3)⟩) hm ?_ ?_
    · rintro x_k6 rst places4 vx5 σ' Bt5 Ht5 xt5 wt5 ⟨v_2t5, o_3t5, rfl, hj0t5⟩ hx5 hf N hN dn
      dsimp only [gName]
      obtain ⟨ctl, hfx, hbk5, hrt5⟩ := forL_step hf
      have hm := hfx
      obtain ⟨t7, e8, hm⟩ := ob hm
      obtain ⟨t11, e9, hm⟩ := ob hm
      refine s_asg wt5 ((ev_catO (ev_var (S := (rLst rInt).s K places4) rfl hj0t5) (ev_listT (ev_T2a (ev_ix (ev_var (S := (rLst (rT2 (rTpl rInt) rInt)).s K tops) rfl (Sv.mono _ xt5 (Sv.mono _ x1 z0))) (ev_var (S := rInt.s K x_k6) rfl hx5) src_p e8))) src_p src_n e9).le sn_s) (fun w_v13 B12 H12 x12 w12 h14 => ?_)
      have hq_ := Option.some.inj hm
      subst hq_
      exact hN t11 _ _ _ hfx x12 w12 ⟨w_v13, _, rfl, h14⟩
    · rintro places4 σ' B15 H15 x15 w15 ⟨v_2k16, o_3k16, rfl, hj0k16⟩ hm
      try dsimp only
      replace hm := finK_nx hm
      refine s_ret w15 (ev_tuple (ev_sortI (ev_var (S := (rLst rInt).s K places4) rfl hj0k16) src_p) src_n) (fun vv B17 H17 x17 w17 hv => ?_)
      cases hm
      exact k _ _ _ w17.st w17.ex ((imm_tpl (imm_flat _)) _ _ _ _ _ hv)
def m__law_normal : (List ((List Int) × Int)) → Option (List ((List Int) × Int)) := fun nodes =>
  (lcO (fun (node : (List Int) × Int) (rr : Unit) => match rr with | () => some (true, ())) (fun (node : (List Int) × Int) (rr : Unit) => match rr with | () => some (((node.1.length : Int), node.1, node.2), ())) nodes ()).bind fun (ys1, _) =>
  (lcO (fun (row : Int × (List Int) × Int) (rr : Unit) => match rr with | () => some (true, ())) (fun (row : Int × (List Int) × Int) (rr : Unit) => match rr with | () => some ((row.2.1, row.2.2), ())) (sortD (dqT3 dqInt (dqTpl dqInt) dqInt) ys1) ()).bind fun (ys6, _) =>
  some ys6
def p__law_normal (K : Fg) : Sp := Pr0 K (fun (g : (List ((List Int) × Int))) => [(rLst (rT2 (rTpl rInt) rInt)).s K g]) m__law_normal (rLst (rT2 (rTpl rInt) rInt))
abbrev N__law_normal : List Str := ["nodes", "rows", "node", "row"]
theorem sc__law_normal : FnScope N__law_normal ["nodes"] (defScope s__law_normal) := ⟨rfl, rfl, rfl, by decide +kernel, rfl, by decide +kernel, by decide +kernel⟩
theorem ok__law_normal {P : Program} {w : World} {K : Fg} {mg : Str → Option Value} {base : Heap} (T : Tx P K mg) {fd : FuncData} (F : FnP K "_law_normal" s__law_normal (He.ga K "_law_normal") fd) : FnOk P w K mg base (L2.CX P w) 1 (He.ga K "_law_normal") fd ["nodes"] (p__law_normal K) := by
  have sc := sc__law_normal
  refine F.ok sc (fun vs H Q E h => ?_) (fun cdv A outer s H vs Q E hr h => ?_)
  · obtain ⟨g, z, B, ss, _⟩ := h
    exact (Paired.length ss).trans rfl
  · obtain ⟨nodes, z, B, ss, ex, hm, k⟩ := h
    obtain ⟨v0, rfl, z0⟩ := pn1 ss
    have hu := hr.units
    refine ⟨_, (pss_cons (ps_set (i := 1) sc.nd rfl (Or.inl rfl) (pe_callB (csrtD (K := K) rfl hu) (by rfl) T.b_sorted (by decide +kernel) (pa_cons (pe_lc (own := [("node", 2)]) (g := (gName 2)) (by rfl) sc.nd (pi_list (pv 0)) (blkOk_by (own := [("node", 2)]) (N := N__law_normal) (sc := defScope s__law_normal) (by decide +kernel)) (fun _ _ _ _ _ => pg_name (i := 2) sc.nd rfl (Or.inl rfl)) (fun _ _ _ _ _ => pts_nil) (fun _ _ _ _ _ => (pe_tup (pa_cons (pe_callB (clen (K := K) rfl) (by rfl) T.b_len (by decide +kernel) (pa_cons (pe_ix (ixt (K := K) rfl) (pv 2) pe_int (fun _ _ => rfl)) pa_nil)) (pa_cons (pe_ix (ixt (K := K) rfl) (pv 2) pe_int (fun _ _ => rfl)) (pa_cons (pe_ix (ixt (K := K) rfl) (pv 2) pe_int (fun _ _ => rfl)) pa_nil)))))) pa_nil))) (pss_one (ps_ret (pe_lc (own := [("row", 3)]) (g := (gName 3)) (by rfl) sc.nd (pi_list (pv 1)) (blkOk_by (own := [("row", 3)]) (N := N__law_normal) (sc := defScope s__law_normal) (by decide +kernel)) (fun _ _ _ _ _ => pg_name (i := 3) sc.nd rfl (Or.inl rfl)) (fun _ _ _ _ _ => pts_nil) (fun _ _ _ _ _ => (pe_tup (pa_cons (pe_ix (ixt (K := K) rfl) (pv 3) pe_int (fun _ _ => rfl)) (pa_cons (pe_ix (ixt (K := K) rfl) (pv 3) pe_int (fun _ _ => rfl)) pa_nil)))))))), ?_⟩
    have w := Wd.start (K := K) ex
    unfold m__law_normal at hm
    obtain ⟨⟨ys1, _⟩, e2, hm⟩ := ob hm
    try dsimp only at hm
    refine s_asg w ((ev_sortD (dqT3 dqInt (dqTpl dqInt) dqInt) (soT3 soI.al (alTpl soI.al) soI.al) (ha := (ev_lc (R := (rT2 (rTpl rInt) rInt)) (R' := (rT3 rInt (rTpl rInt) rInt)) (oo := (fun (rr : Unit) => [])) (fun (node : (List Int) × Int) (rr : Unit) => match rr with | () => some (true, ())) (fun (node : (List Int) × Int) (rr : Unit) => match rr with | () => some (((node.1.length : Int), node.1, node.2), ())) (lcT (rT2 (rTpl rInt) rInt) K _ 2 [2]) (ei_list (ev_var (S := (rLst (rT2 (rTpl rInt) rInt)).s K nodes) rfl z0)) e2 (lcT_mono _ _ _ _ _) (lcT_name rfl 2 [2] (by intro x; rfl)) (fun node rr bb r1 σ2 B' pD acc ht eB ⟨vx, hσ, hx⟩ => by cases ht; exact et_yes) (fun node rr yy r1 σ2 B' pD acc he eB ⟨vx, hσ, hx⟩ => by subst hσ; cases he; exact (ev_T3 (ea_cons (ev_lenT (ev_T2a (ev_var (S := (rT2 (rTpl rInt) rInt).s K node) rfl hx))) (ea_cons (ev_T2a (ev_var (S := (rT2 (rTpl rInt) rInt).s K node) rfl hx)) (ea_cons (ev_T2b (ev_var (S := (rT2 (rTpl rInt) rInt).s K node) rfl hx)) ea_nil))))))) (hs := src_n)).le sn_s) (fun w_v4 B3 H3 x3 w3 h5 => ?_)
    obtain ⟨⟨ys6, _⟩, e7, hm⟩ := ob hm
    try dsimp only at hm
    refine s_ret w3 (ev_lc (R := (rT3 rInt (rTpl rInt) rInt)) (R' := (rT2 (rTpl rInt) rInt)) (oo := (fun (rr : Unit) => [])) (fun (row : Int × (List Int) × Int) (rr : Unit) => match rr with | () => some (true, ())) (fun (row : Int × (List Int) × Int) (rr : Unit) => match rr with | () => some ((row.2.1, row.2.2), ())) (lcT (rT3 rInt (rTpl rInt) rInt) K _ 3 [3]) (ei_list (ev_var (S := (rLst (rT3 rInt (rTpl rInt) rInt)).s K (sortD (dqT3 dqInt (dqTpl dqInt) dqInt) ys1)) rfl h5)) e7 (lcT_mono _ _ _ _ _) (lcT_name rfl 3 [3] (by intro x; rfl)) (fun row rr bb r1 σ2 B' pD acc ht eB ⟨vx, hσ, hx⟩ => by cases ht; exact et_yes) (fun row rr yy r1 σ2 B' pD acc he eB ⟨vx, hσ, hx⟩ => by subst hσ; cases he; exact (ev_T2 (ea_cons (ev_T3b (ev_var (S := (rT3 rInt (rTpl rInt) rInt).s K row) rfl hx)) (ea_cons (ev_T3c (ev_var (S := (rT3 rInt (rTpl rInt) rInt).s K row) rfl hx)) ea_nil))))) (fun vv B8 H8 x8 w8 hv => ?_)
    cases hm
    exact k _ _ _ w8.st w8.ex (r_n w3 (imm_T2 (imm_tpl (imm_flat _)) (imm_flat _)) hv)
def m__law_gate : (List Int) × Int × (List Int) × Int → Option (Int × (List Int)) := fun (state, size, places, far) =>
  (rngO (0 : Int) size).bind fun xs1 =>
  (lcO (fun (place : Int) (rr : Unit) => match rr with | () => some ((!decide (place ∈ places)), ())) (fun (place : Int) (rr : Unit) => match rr with | () => some (place, ())) xs1 ()).bind fun (ys3, _) =>
  (cond (decide ((ys3.length : Int) = (0 : Int))) (some (true, state)) ((m__law_pick (state, far)).bind fun (r8, state10) => some ((decide (r8 = (0 : Int))), state10))).bind fun (b11, state13) =>
  cond b11 (some ((-(1 : Int)), state13)) ((m__law_pick (state13, (ys3.length : Int))).bind fun (r16, state18) =>
  (atI ys3 r16).bind fun t19 =>
  some (t19, state18))
def p__law_gate (K : Fg) : Sp := Pr1 K (fun (g : (List Int) × Int × (List Int) × Int) p => [SA p, rInt.s K g.2.1, (rTpl rInt).s K g.2.2.1, rInt.s K g.2.2.2]) (fun g => CL rInt K g.1) m__law_gate (fun e => CL rInt K e) rInt
abbrev N__law_gate : List Str := ["state", "size", "places", "far", "ends", "place"]
theorem sc__law_gate : FnScope N__law_gate ["state", "size", "places", "far"] (defScope s__law_gate) := ⟨rfl, rfl, rfl, by decide +kernel, rfl, by decide +kernel, by decide +kernel⟩
theorem ok__law_gate {P : Program} {w : World} {K : Fg} {mg : Str → Option Value} {base : Heap} (T : Tx P K mg) {fd : FuncData} (F : FnP K "_law_gate" s__law_gate (He.ga K "_law_gate") fd) : FnOk P w K mg base (L2.CX P w) 2 (He.ga K "_law_gate") fd ["state", "size", "places", "far"] (p__law_gate K) := by
  obtain ⟨fd__law_pick, F__law_pick⟩ := T.f__law_pick
  have b__law_pick : Binds K fd__law_pick ["state", "many"] [] := F__law_pick.bindsN fun _ _ _ _ _ _ us hl => match us, hl with | [_, _], _ => rfl
  have G__law_pick : FnOk P w K mg base (L2.CX P w) 1 (He.ga K "_law_pick") fd__law_pick ["state", "many"] (p__law_pick K) := ok__law_pick T F__law_pick
  have sc := sc__law_gate
  refine F.ok sc (fun vs H Q E h => ?_) (fun cdv A outer s H vs Q E hr h => ?_)
  · obtain ⟨g, p, z, B, o, ss, _⟩ := h
    exact (Paired.length ss).trans rfl
  · obtain ⟨⟨state, size, places, far⟩, p0, z, B, o, ss, ex, h1, h2, h3, h4, hm, k⟩ := h
    obtain ⟨v0, v1, v2, v3, rfl, z0, z1, z2, z3⟩ := pn4 ss
    cases (show _ = V.ref p0 from z0)
    refine ⟨_, (pss_cons (ps_setLc (i := 4) (own := [("place", 5)]) (g := (gName 5)) (by rfl) sc.nd rfl rfl (sw_true rfl rfl rfl (by decide +kernel)) (pi_range1 (by rfl) T.b_range (pa_cons (pv 1) pa_nil)) (blkOk_by (own := [("place", 5)]) (N := N__law_gate) (sc := defScope s__law_gate) (by decide +kernel)) (fun _ _ _ _ _ => pg_name (i := 5) sc.nd rfl (Or.inl rfl)) (fun _ _ _ _ _ => pts_one (pt_cmpR (opnin (K := K) rfl) (pv 5) (pv 2) (by rfl))) (fun _ _ _ _ _ => (pv 5))) (pss_cons (ps_if (PW.pt (pw_or (pt_cmpR op_eq (pe_callB (clen (K := K) rfl) (by rfl) T.b_len (by decide +kernel) (pa_cons (pv 4) pa_nil)) pe_int (nomark _)) (pw_or1 (pt_cmpR op_eq (pe_call G__law_pick (hr.mono (by decide)) (by rfl) T.m__law_pick F__law_pick.kp b__law_pick .nil passL (pa_cons (pv 0) (pa_cons (pv 3) pa_nil))) pe_int (nomark _))))) (pss_one (ps_ret (pe_un un_neg pe_int))) pss_nil) (pss_one (ps_ret (pe_ix (ixl (K := K) rfl) (pv 4) (pe_call G__law_pick (hr.mono (by decide)) (by rfl) T.m__law_pick F__law_pick.kp b__law_pick .nil passL (pa_cons (pv 0) (pa_cons (pe_callB (clen (K := K) rfl) (by rfl) T.b_len (by decide +kernel) (pa_cons (pv 4) pa_nil)) pa_nil))) (fun _ _ => rfl)))))), ?_⟩
    have w := Wd.start1 (K := K) ex h1 h2 h3 h4
    unfold m__law_gate at hm
    obtain ⟨xs1, e2, hm⟩ := ob hm
    obtain ⟨⟨ys3, _⟩, e4, hm⟩ := ob hm
    try dsimp only at hm
    refine s_asg w ((ev_lc (R := rInt) (R' := rInt) (oo := (fun (rr : Unit) => [CL rInt K state])) (fun (place : Int) (rr : Unit) => match rr with | () => some ((!decide (place ∈ places)), ())) (fun (place : Int) (rr : Unit) => match rr with | () => some (place, ())) (lcT rInt K _ 5 [5]) (ei_r1 (ev_var (S := rInt.s K size) rfl z1) e2) e4 (lcT_mono _ _ _ _ _) (lcT_name rfl 5 [5] (by intro x; rfl)) (fun place rr bb r1 σ2 B' pD acc ht eB ⟨vx, hσ, hx⟩ => by subst hσ; cases ht; exact (et_test (ev_notinT (ev_var (S := rInt.s K place) rfl hx) (ev_var (S := (rTpl rInt).s K places) rfl (Sv.mono _ eB z2))))) (fun place rr yy r1 σ2 B' pD acc he eB ⟨vx, hσ, hx⟩ => by subst hσ; cases he; exact (ev_var (S := rInt.s K place) rfl hx))).le sn_s) (fun w_v6 B5 H5 x5 w5 h7 => ?_)
    obtain ⟨⟨b11, state13⟩, e12, hm⟩ := ob hm
    try dsimp only at hm
    try dsimp only
    refine s_if w5 (et_orO (o3 := [CL rInt K state13]) (b := b11) (et_test (ev_eqI (ev_len (ev_var (S := (rLst rInt).s K ys3) rfl h7) src_p) ev_int)) (fun hc => by have e12 := ie hc e12; obtain ⟨⟨r8, state10⟩, e9, e12⟩ := ob e12; try dsimp only at e12; have hs0_ := Option.some.inj e12; obtain ⟨hq0_, hs1_⟩ := Prod.mk.inj hs0_; subst hq0_; subst hs1_; exact (et_test (ev_eqI ((ev_call1 (g := (state, far)) 0 rfl (ea_cons (ev_var (S := SA p0) rfl rfl) (ea_cons (ev_var (S := rInt.s K far) rfl (Sv.mono _ x5 z3)) ea_nil)) rfl (al_p (fun a z => List.mem_of_mem_eraseIdx z) (al_p (fun a z => List.mem_of_mem_eraseIdx z) al_nil)) e9 (csi (imm_flat _))).le g_s) ev_int))) (fun hc => by have e12 := it hc e12; cases e12; exact ⟨rfl, rfl⟩)) (fun hb B14 H14 x14 w14 => ?_) (fun hb B14 H14 x14 w14 => ?_)
    · have hm := it hb hm
      refine s_ret w14 (ev_neg ev_int) (fun vv B15 H15 x15 w15 hv => ?_)
      cases hm
      obtain ⟨oz, gz1, _, gz3, gz4⟩ := w15.cell.get (i := 0) rfl rfl
      exact k _ _ _ oz w15.st w15.ex gz1 gz3 gz4 ((imm_flat _) _ _ _ _ _ hv)
    · have hm := ie hb hm
      obtain ⟨⟨r16, state18⟩, e17, hm⟩ := ob hm
      try dsimp only at hm
      obtain ⟨t19, e20, hm⟩ := ob hm
      refine s_ret w14 (ev_ix (ev_var (S := (rLst rInt).s K ys3) rfl (Sv.mono _ x14 h7)) ((ev_call1 (g := (state13, (ys3.length : Int))) 0 rfl (ea_cons (ev_var (S := SA p0) rfl rfl) (ea_cons (ev_len (ev_var (S := (rLst rInt).s K ys3) rfl (Sv.mono _ x14 h7)) src_p) ea_nil)) rfl (al_p (fun a z => List.mem_of_mem_eraseIdx z) (al_p (fun a z => List.mem_of_mem_eraseIdx z) al_nil)) e17 (csi (imm_flat _))).le g_s) src_p e20) (fun vv B21 H21 x21 w21 hv => ?_)
      cases hm
      obtain ⟨oz, gz1, _, gz3, gz4⟩ := w21.cell.get (i := 0) rfl rfl
      exact k _ _ _ oz w21.st w21.ex gz1 gz3 gz4 ((imm_flat _) _ _ _ _ _ hv)
def m__law_gate_L : (List Int) × Int × (List Int) × Int → Option (Int × (List Int)) := fun (state, size, places, far) =>
  (rngO (0 : Int) size).bind fun xs1 =>
  (lcO (fun (place : Int) (rr : Unit) => match rr with | () => some ((!decide (place ∈ places)), ())) (fun (place : Int) (rr : Unit) => match rr with | () => some (place, ())) xs1 ()).bind fun (ys3, _) =>
  (cond (decide ((ys3.length : Int) = (0 : Int))) (some (true, state)) ((m__law_pick (state, far)).bind fun (r8, state10) => some ((decide (r8 = (0 : Int))), state10))).bind fun (b11, state13) =>
  cond b11 (some ((-(1 : Int)), state13)) ((m__law_pick (state13, (ys3.length : Int))).bind fun (r16, state18) =>
  (atI ys3 r16).bind fun t19 =>
  some (t19, state18))
def p__law_gate_L (K : Fg) : Sp := Pr1 K (fun (g : (List Int) × Int × (List Int) × Int) p => [SA p, rInt.s K g.2.1, (rLst rInt).s K g.2.2.1, rInt.s K g.2.2.2]) (fun g => CL rInt K g.1) m__law_gate_L (fun e => CL rInt K e) rInt
abbrev N__law_gate_L : List Str := ["state", "size", "places", "far", "ends", "place"]
theorem sc__law_gate_L : FnScope N__law_gate_L ["state", "size", "places", "far"] (defScope s__law_gate) := ⟨rfl, rfl, rfl, by decide +kernel, rfl, by decide +kernel, by decide +kernel⟩
theorem ok__law_gate_L {P : Program} {w : World} {K : Fg} {mg : Str → Option Value} {base : Heap} (T : Tx P K mg) {fd : FuncData} (F : FnP K "_law_gate" s__law_gate (He.ga K "_law_gate") fd) : FnOk P w K mg base (L2.CX P w) 2 (He.ga K "_law_gate") fd ["state", "size", "places", "far"] (p__law_gate_L K) := by
  obtain ⟨fd__law_pick, F__law_pick⟩ := T.f__law_pick
  have b__law_pick : Binds K fd__law_pick ["state", "many"] [] := F__law_pick.bindsN fun _ _ _ _ _ _ us hl => match us, hl with | [_, _], _ => rfl
  have G__law_pick : FnOk P w K mg base (L2.CX P w) 1 (He.ga K "_law_pick") fd__law_pick ["state", "many"] (p__law_pick K) := ok__law_pick T F__law_pick
  have sc := sc__law_gate_L
  refine F.ok sc (fun vs H Q E h => ?_) (fun cdv A outer s H vs Q E hr h => ?_)
  · obtain ⟨g, p, z, B, o, ss, _⟩ := h
    exact (Paired.length ss).trans rfl
  · obtain ⟨⟨state, size, places, far⟩, p0, z, B, o, ss, ex, h1, h2, h3, h4, hm, k⟩ := h
    obtain ⟨v0, v1, v2, v3, rfl, z0, z1, z2, z3⟩ := pn4 ss
    cases (show _ = V.ref p0 from z0)
    refine ⟨_, (pss_cons (ps_setLc (i := 4) (own := [("place", 5)]) (g := (gName 5)) (by rfl) sc.nd rfl rfl (sw_true rfl rfl rfl (by decide +kernel)) (pi_range1 (by rfl) T.b_range (pa_cons (pv 1) pa_nil)) (blkOk_by (own := [("place", 5)]) (N := N__law_gate_L) (sc := defScope s__law_gate) (by decide +kernel)) (fun _ _ _ _ _ => pg_name (i := 5) sc.nd rfl (Or.inl rfl)) (fun _ _ _ _ _ => pts_one (pt_cmpR (opnin (K := K) rfl) (pv 5) (pv 2) (by rfl))) (fun _ _ _ _ _ => (pv 5))) (pss_cons (ps_if (PW.pt (pw_or (pt_cmpR op_eq (pe_callB (clen (K := K) rfl) (by rfl) T.b_len (by decide +kernel) (pa_cons (pv 4) pa_nil)) pe_int (nomark _)) (pw_or1 (pt_cmpR op_eq (pe_call G__law_pick (hr.mono (by decide)) (by rfl) T.m__law_pick F__law_pick.kp b__law_pick .nil passL (pa_cons (pv 0) (pa_cons (pv 3) pa_nil))) pe_int (nomark _))))) (pss_one (ps_ret (pe_un un_neg pe_int))) pss_nil) (pss_one (ps_ret (pe_ix (ixl (K := K) rfl) (pv 4) (pe_call G__law_pick (hr.mono (by decide)) (by rfl) T.m__law_pick F__law_pick.kp b__law_pick .nil passL (pa_cons (pv 0) (pa_cons (pe_callB (clen (K := K) rfl) (by rfl) T.b_len (by decide +kernel) (pa_cons (pv 4) pa_nil)) pa_nil))) (fun _ _ => rfl)))))), ?_⟩
    have w := Wd.start1 (K := K) ex h1 h2 h3 h4
    unfold m__law_gate_L at hm
    obtain ⟨xs1, e2, hm⟩ := ob hm
    obtain ⟨⟨ys3, _⟩, e4, hm⟩ := ob hm
    try dsimp only at hm
    refine s_asg w ((ev_lc (R := rInt) (R' := rInt) (oo := (fun (rr : Unit) => [CL rInt K state])) (fun (place : Int) (rr : Unit) => match rr with | () => some ((!decide (place ∈ places)), ())) (fun (place : Int) (rr : Unit) => match rr with | () => some (place, ())) (lcT rInt K _ 5 [5]) (ei_r1 (ev_var (S := rInt.s K size) rfl z1) e2) e4 (lcT_mono _ _ _ _ _) (lcT_name rfl 5 [5] (by intro x; rfl)) (fun place rr bb r1 σ2 B' pD acc ht eB ⟨vx, hσ, hx⟩ => by subst hσ; cases ht; exact (et_test (ev_notin (ev_var (S := rInt.s K place) rfl hx) (ev_var (S := (rLst rInt).s K places) rfl (Sv.mono _ eB z2)) src_p))) (fun place rr yy r1 σ2 B' pD acc he eB ⟨vx, hσ, hx⟩ => by subst hσ; cases he; exact (ev_var (S := rInt.s K place) rfl hx))).le sn_s) (fun w_v6 B5 H5 x5 w5 h7 => ?_)
    obtain ⟨⟨b11, state13⟩, e12, hm⟩ := ob hm
    try dsimp only at hm
    try dsimp only
    refine s_if w5 (et_orO (o3 := [CL rInt K state13]) (b := b11) (et_test (ev_eqI (ev_len (ev_var (S := (rLst rInt).s K ys3) rfl h7) src_p) ev_int)) (fun hc => by have e12 := ie hc e12; obtain ⟨⟨r8, state10⟩, e9, e12⟩ := ob e12; try dsimp only at e12; have hs0_ := Option.some.inj e12; obtain ⟨hq0_, hs1_⟩ := Prod.mk.inj hs0_; subst hq0_; subst hs1_; exact (et_test (ev_eqI ((ev_call1 (g := (state, far)) 0 rfl (ea_cons (ev_var (S := SA p0) rfl rfl) (ea_cons (ev_var (S := rInt.s K far) rfl (Sv.mono _ x5 z3)) ea_nil)) rfl (al_p (fun a z => List.mem_of_mem_eraseIdx z) (al_p (fun a z => List.mem_of_mem_eraseIdx z) al_nil)) e9 (csi (imm_flat _))).le g_s) ev_int))) (fun hc => by have e12 := it hc e12; cases e12; exact ⟨rfl, rfl⟩)) (fun hb B14 H14 x14 w14 => ?_) (fun hb B14 H14 x14 w14 => ?_)
    · have hm := it hb hm
      refine s_ret w14 (ev_neg ev_int) (fun vv B15 H15 x15 w15 hv => ?_)
      cases hm
      obtain ⟨oz, gz1, _, gz3, gz4⟩ := w15.cell.get (i := 0) rfl rfl
      exact k _ _ _ oz w15.st w15.ex gz1 gz3 gz4 ((imm_flat _) _ _ _ _ _ hv)
    · have hm := ie hb hm
      obtain ⟨⟨r16, state18⟩, e17, hm⟩ := ob hm
      try dsimp only at hm
      obtain ⟨t19, e20, hm⟩ := ob hm
      refine s_ret w14 (ev_ix (ev_var (S := (rLst rInt).s K ys3) rfl (Sv.mono _ x14 h7)) ((ev_call1 (g := (state13, (ys3.length : Int))) 0 rfl (ea_cons (ev_var (S := SA p0) rfl rfl) (ea_cons (ev_len (ev_var (S := (rLst rInt).s K ys3) rfl (Sv.mono _ x14 h7)) src_p) ea_nil)) rfl (al_p (fun a z => List.mem_of_mem_eraseIdx z) (al_p (fun a z => List.mem_of_mem_eraseIdx z) al_nil)) e17 (csi (imm_flat _))).le g_s) src_p e20) (fun vv B21 H21 x21 w21 hv => ?_)
      cases hm
      obtain ⟨oz, gz1, _, gz3, gz4⟩ := w21.cell.get (i := 0) rfl rfl
      exact k _ _ _ oz w21.st w21.ex gz1 gz3 gz4 ((imm_flat _) _ _ _ _ _ hv)
def m__law_wound : (List Int) × Int × Int → Option ((List ((List Int) × Int)) × (List Int)) := fun (state, size, far) =>
  (rngO (0 : Int) size).bind fun xs1 =>
  (lcO (fun (place : Int) (rr : (List Int)) => match rr with | state => some (true, state)) (fun (place : Int) (rr : (List Int)) => match rr with | state => (m__law_gate_L (state, size, [place], far)).bind fun (r3, state5) => some (([place], r3), state5)) xs1 state).bind fun (ys6, state8) =>
  (rngO (0 : Int) size).bind fun xs15 =>
  finK (fun (rr : (List Int) × (List ((List Int) × Int)) × (List ((List Int) × Int))) => match rr with | (state17, nodes18, tops19) => ((m__law_normal nodes18).bind fun r56 =>
  some (r56, state17))) (fun (_ : Unit) => none) (forL (fun (turn21 : Int) (rr : (List Int) × (List ((List Int) × Int)) × (List ((List Int) × Int))) => (match rr with | (state17, nodes18, tops19) => ((m__law_circle tops19).bind fun r22 =>
  cond (decide ((r22.length : Int) = (0 : Int))) (some (.bk (state17, nodes18, tops19))) ((m__law_union (tops19, r22)).bind fun r28 =>
  (m__law_gate (state17, size, r28, far)).bind fun (r33, state35) =>
  (rngO (0 : Int) (tops19.length : Int)).bind fun xs39 =>
  (lcO (fun (x_k : Int) (rr : Unit) => match rr with | () => some ((!decide (x_k ∈ r22)), ())) (fun (x_k : Int) (rr : Unit) => match rr with | () => (atI tops19 x_k).bind fun t41 => some (t41, ())) xs39 ()).bind fun (ys43, _) =>
  (catO ys43 [(r28, r33)]).bind fun t47 =>
  (appO nodes18 (r28, r33)).bind fun nodes51 =>
  some (.nx (state35, nodes51, t47)))) : Option (Ctl ((List Int) × (List ((List Int) × Int)) × (List ((List Int) × Int))) Unit))) xs15 (state8, ys6, ys6))
def p__law_wound (K : Fg) : Sp := Pr1 K (fun (g : (List Int) × Int × Int) p => [SA p, rInt.s K g.2.1, rInt.s K g.2.2]) (fun g => CL rInt K g.1) m__law_wound (fun e => CL rInt K e) (rLst (rT2 (rTpl rInt) rInt))
abbrev N__law_wound : List Str := ["state", "size", "far", "nodes", "place", "tops", "turn", "row", "places", "ring", "k"]
theorem sc__law_wound : FnScope N__law_wound ["state", "size", "far"] (defScope s__law_wound) := ⟨rfl, rfl, rfl, by decide +kernel, rfl, by decide +kernel, by decide +kernel⟩
theorem ok__law_wound {P : Program} {w : World} {K : Fg} {mg : Str → Option Value} {base : Heap} (T : Tx P K mg) {fd : FuncData} (F : FnP K "_law_wound" s__law_wound (He.ga K "_law_wound") fd) : FnOk P w K mg base (L2.CX P w) 3 (He.ga K "_law_wound") fd ["state", "size", "far"] (p__law_wound K) := by
  obtain ⟨fd__law_circle, F__law_circle⟩ := T.f__law_circle
  have b__law_circle : Binds K fd__law_circle ["tops"] [] := F__law_circle.bindsN fun _ _ _ _ _ _ us hl => match us, hl with | [_], _ => rfl
  have G__law_circle : FnOk P w K mg base (L2.CX P w) 2 (He.ga K "_law_circle") fd__law_circle ["tops"] (p__law_circle K) := ok__law_circle T F__law_circle
  obtain ⟨fd__law_gate, F__law_gate⟩ := T.f__law_gate
  have b__law_gate : Binds K fd__law_gate ["state", "size", "places", "far"] [] := F__law_gate.bindsN fun _ _ _ _ _ _ us hl => match us, hl with | [_, _, _, _], _ => rfl
  have G__law_gate : FnOk P w K mg base (L2.CX P w) 2 (He.ga K "_law_gate") fd__law_gate ["state", "size", "places", "far"] (p__law_gate K) := ok__law_gate T F__law_gate
  have G__law_gate_L : FnOk P w K mg base (L2.CX P w) 2 (He.ga K "_law_gate") fd__law_gate ["state", "size", "places", "far"] (p__law_gate_L K) := ok__law_gate_L T F__law_gate
  obtain ⟨fd__law_normal, F__law_normal⟩ := T.f__law_normal
  have b__law_normal : Binds K fd__law_normal ["nodes"] [] := F__law_normal.bindsN fun _ _ _ _ _ _ us hl => match us, hl with | [_], _ => rfl
  have G__law_normal : FnOk P w K mg base (L2.CX P w) 1 (He.ga K "_law_normal") fd__law_normal ["nodes"] (p__law_normal K) := ok__law_normal T F__law_normal
  obtain ⟨fd__law_union, F__law_union⟩ := T.f__law_union
  have b__law_union : Binds K fd__law_union ["tops", "row"] [] := F__law_union.bindsN fun _ _ _ _ _ _ us hl => match us, hl with | [_, _], _ => rfl
  have G__law_union : FnOk P w K mg base (L2.CX P w) 1 (He.ga K "_law_union") fd__law_union ["tops", "row"] (p__law_union K) := ok__law_union T F__law_union
  have sc := sc__law_wound
  refine F.ok sc (fun vs H Q E h => ?_) (fun cdv A outer s H vs Q E hr h => ?_)
  · obtain ⟨g, p, z, B, o, ss, _⟩ := h
    exact (Paired.length ss).trans rfl
  · obtain ⟨⟨state, size, far⟩, p0, z, B, o, ss, ex, h1, h2, h3, h4, hm, k⟩ := h
    obtain ⟨v0, v1, v2, rfl, z0, z1, z2⟩ := pn3 ss
    cases (show _ = V.ref p0 from z0)
    refine ⟨_, (pss_cons (ps_setLc (i := 3) (own := [("place", 4)]) (g := (gName 4)) (by rfl) sc.nd rfl rfl (sw_true rfl rfl rfl (by decide +kernel)) (pi_range1 (by rfl) T.b_range (pa_cons (pv 1) pa_nil)) (blkOk_by (own := [("place", 4)]) (N := N__law_wound) (sc := defScope s__law_wound) (by decide +kernel)) (fun _ _ _ _ _ => pg_name (i := 4) sc.nd rfl (Or.inl rfl)) (fun _ _ _ _ _ => pts_nil) (fun _ _ _ _ _ => (pe_tup (pa_cons (pe_tup (pa_cons (pv 4) pa_nil)) (pa_cons (pe_call G__law_gate_L (hr.mono (by decide)) (by rfl) T.m__law_gate F__law_gate.kp b__law_gate .nil passL (pa_cons (pv 0) (pa_cons (pv 1) (pa_cons (pe_lst (pa_cons (pv 4) pa_nil)) (pa_cons (pv 2) pa_nil))))) pa_nil))))) (pss_cons (ps_set (i := 5) sc.nd rfl (Or.inr rfl) (pe_callTy (clst (K := K) rfl) (by rfl) T.b_list (by decide +kernel) (pa_cons (pv 3) pa_nil))) (pss_cons (ps_for (passes_of rfl) rfl (pi_range1 (by rfl) T.b_range (pa_cons (pv 1) pa_nil)) (pg_name (i := 6) sc.nd rfl (Or.inl rfl)) (pss_cons (ps_set (i := 7) sc.nd rfl (Or.inr rfl) (pe_call G__law_circle (hr.mono (by decide)) (by rfl) T.m__law_circle F__law_circle.kp b__law_circle .nil passL (pa_cons (pv 5) pa_nil))) (pss_cons (ps_if (pt_cmpR op_eq (pe_callB (clen (K := K) rfl) (by rfl) T.b_len (by decide +kernel) (pa_cons (pv 7) pa_nil)) pe_int (nomark _)) (pss_one ps_break) pss_nil) (pss_cons (ps_set (i := 8) sc.nd rfl (Or.inl rfl) (pe_call G__law_union (hr.mono (by decide)) (by rfl) T.m__law_union F__law_union.kp b__law_union .nil passL (pa_cons (pv 5) (pa_cons (pv 7) pa_nil)))) (pss_cons (ps_set (i := 9) sc.nd rfl (Or.inl rfl) (pe_tup (pa_cons (pv 8) (pa_cons (pe_call G__law_gate (hr.mono (by decide)) (by rfl) T.m__law_gate F__law_gate.kp b__law_gate .nil passL (pa_cons (pv 0) (pa_cons (pv 1) (pa_cons (pv 8) (pa_cons (pv 2) pa_nil))))) pa_nil)))) (pss_cons (ps_set (i := 5) sc.nd rfl (Or.inr rfl) (pe_op op_cat (pe_lc (own := [("k", 10)]) (g := (gName 10)) (by rfl) sc.nd (pi_range1 (by rfl) T.b_range (pa_cons (pe_callB (clen (K := K) rfl) (by rfl) T.b_len (by decide +kernel) (pa_cons (pv 5) pa_nil)) pa_nil)) (blkOk_by (own := [("k", 10)]) (N := N__law_wound) (sc := defScope s__law_wound) (by decide +kernel)) (fun _ _ _ _ _ => pg_name (i := 10) sc.nd rfl (Or.inl rfl)) (fun _ _ _ _ _ => pts_one (pt_cmpR (opnin (K := K) rfl) (pv 10) (pv 7) (by rfl))) (fun _ _ _ _ _ => (pe_ix (ixl (K := K) rfl) (pv 5) (pv 10) (fun _ _ => rfl)))) (pe_lst (pa_cons (pv 9) pa_nil)))) (pss_one (ps_expr (pe_bm PySem.F.plainAttrs_list PySem.F.slot_list_append PySem.F.type_list_append mt_append (pv 3) (pa_cons (pv 9) pa_nil)))))))))) (pss_one (ps_ret (pe_call G__law_normal (hr.mono (by decide)) (by rfl) T.m__law_normal F__law_normal.kp b__law_normal .nil passL (pa_cons (pv 3) pa_nil))))))), ?_⟩
    have w := Wd.start1 (K := K) ex h1 h2 h3 h4
    unfold m__law_wound at hm
    obtain ⟨xs1, e2, hm⟩ := ob hm
    obtain ⟨⟨ys6, state8⟩, e7, hm⟩ := ob hm
    try dsimp only at hm
    refine s_own w (ev_lc (R := rInt) (R' := (rT2 (rTpl rInt) rInt)) (oo := (fun (rr : (List Int)) => [CL rInt K rr])) (fun (place : Int) (rr : (List Int)) => match rr with | state => some (true, state)) (fun (place : Int) (rr : (List Int)) => match rr with | state => (m__law_gate_L (state, size, [place], far)).bind fun (r3, state5) => some (([place], r3), state5)) (lcT rInt K _ 4 [4]) (ei_r1 (ev_var (S := rInt.s K size) rfl z1) e2) e7 (lcT_mono _ _ _ _ _) (lcT_name rfl 4 [4] (by intro x; rfl)) (fun place state bb r1 σ2 B' pD acc ht eB ⟨vx, hσ, hx⟩ => by cases ht; exact et_yes) (fun place state yy r1 σ2 B' pD acc he eB ⟨vx, hσ, hx⟩ => by subst hσ; obtain ⟨⟨r3, state5⟩, e4, he⟩ := ob he; try dsimp only at he; cases he; exact (ev_T2 (ea_cons (ev_tpl (R := rInt) (xs := [place]) (ea_cons (ev_var (S := rInt.s K place) rfl hx) ea_nil) (by show 1 ≤ 1000; decide)) (ea_cons ((ev_call1 (g := (state, size, [place], far)) 1 rfl (ea_cons (ev_var (S := SA p0) rfl rfl) (ea_cons (ev_var (S := rInt.s K size) rfl (Sv.mono _ eB z1)) (ea_cons (ev_lst (R := rInt) (xs := [place]) (ea_cons (ev_var (S := rInt.s K place) rfl hx) ea_nil) (by show 1 ≤ 1000; decide)) (ea_cons (ev_var (S := rInt.s K far) rfl (Sv.mono _ eB z2)) ea_nil)))) rfl (al_p (fun a z => List.mem_of_mem_eraseIdx z) (al_p (fun a z => List.mem_of_mem_eraseIdx z) (al_le sn_s (fun a z => List.mem_of_mem_eraseIdx z) (al_p (fun a z => List.mem_of_mem_eraseIdx z) al_nil)))) e4 (csi (imm_flat _))).le g_s) ea_nil))))) (imm_T2 (imm_tpl (imm_flat _)) (imm_flat _)) ⟨csi (imm_flat _), trivial⟩ (fun q10 B9 H9 x9 n11 w9 => ?_)
    refine s_asg w9 ((ev_list (ev_var (S := SA q10) rfl rfl) (src_o (R := (rT2 (rTpl rInt) rInt)) (xs := ys6) 0 rfl rfl)).le sn_s) (fun w_v13 B12 H12 x12 w12 h14 => ?_)
    obtain ⟨xs15, e16, hm⟩ := ob hm
    refine s_for (R := rInt) (oo := (fun (rr : (List Int) × (List ((List Int) × Int)) × (List ((List Int) × Int))) => [CL (rT2 (rTpl rInt) rInt) K rr.2.1, CL rInt K rr.1])) (ρ0 := (state8, ys6, ys6)) (fun (turn21 : Int) (rr : (List Int) × (List ((List Int) × Int)) × (List ((List Int) × Int))) => (match rr with | (state17, nodes18, tops19) => ((m__law_circle tops19).bind fun r22 =>
cond (decide ((r22.length : Int) = (0 : Int))) (some (.bk (state17, nodes18, tops19))) ((m__law_union (tops19, r22)).bind fun r28 =>
(m__law_gate (state17, size, r28, far)).bind fun (r33, state35) =>
(rngO (0 : Int) (tops19.length : Int)).bind fun xs39 =>
(lcO (fun (x_k : Int) (rr : Unit) => match rr with | () => some ((!decide (x_k ∈ r22)), ())) (fun (x_k : Int) (rr : Unit) => match rr with | () => (atI tops19 x_k).bind fun t41 => some (t41, ())) xs39 ()).bind fun (ys43, _) =>
(catO ys43 [(r28, r33)]).bind fun t47 =>
(appO nodes18 (r28, r33)).bind fun nodes51 =>
some (.nx (state35, nodes51, t47)))) : Option (Ctl ((List Int) × (List ((List Int) × Int)) × (List ((List Int) × Int))) Unit))) (fun (rr : (List Int) × (List ((List Int) × Int)) × (List ((List Int) × Int))) σ' B' => ∃ o_4 : Option V, ∃ v_5 : V, ∃ o_6 : Option V, ∃ o_7 : Option V, ∃ o_8 : Option V, ∃ o_9 : Option V, ∃ o_10 : Option V, σ' = [some (.ref p0), some v1, some v2, some (.ref q10), o_4, some v_5, o_6, o_7, o_8, o_9, o_10] ∧ ((rLst (rT2 (rTpl rInt) rInt)).s K rr.2.2).p v_5 B') (fun zz => finK _ _ zz = some _) w12 (ei_r1 (ev_var (S := rInt.s K size) rfl (Sv.mono _ x12 (Sv.mono _ x9 z1))) e16) (fun rr σ' B1 B2 e ⟨o_4, v_5, o_6, o_7, o_8, o_9, o_10, hσ, hj0⟩ => ⟨o_4, v_5, o_6, o_7, o_8, o_9, o_10, hσ, Sv.mono _ e hj0⟩) (fun B2 e => ⟨_, w_v13, _, _, _, _, _, rfl, (Sv.mono _ e h14)⟩) hm ?_ ?_
    · rintro turn21 rst rr vx20 σ' Bt20 Ht20 xt20 wt20 ⟨o_4t20, v_5t20, o_6t20, o_7t20, o_8t20, o_9t20, o_10t20, rfl, hj0t20⟩ hx20 hf N hN dn
      dsimp only [gName]
      obtain ⟨state17, nodes18, tops19⟩ := rr
      obtain ⟨ctl, hfx, hbk20, hrt20⟩ := forL_step hf
      have hm := hfx
      obtain ⟨r22, e23, hm⟩ := ob hm
      refine s_asg wt20 ((ev_call0 (g := tops19) (ea_cons (ev_var (S := (rLst (rT2 (rTpl rInt) rInt)).s K tops19) rfl hj0t20) ea_nil) (al_p (fun _ z => z) al_nil) e23).le g_s) (fun w_v25 B24 H24 x24 w24 h26 => ?_)
      try dsimp only
      refine s_if w24 (et_test (ev_eqI (ev_len (ev_var (S := (rLst rInt).s K r22) rfl h26) src_p) ev_int)) (fun hb B27 H27 x27 w27 => ?_) (fun hb B27 H27 x27 w27 => ?_)
      · have hm := it hb hm
        have hq_ := Option.some.inj hm
        subst hq_
        exact dn _ _ _ _ ((xt20.trans x24).trans x27) w27 ⟨_, v_5t20, _, _, _, _, _, rfl, (Sv.mono _ x27 (Sv.mono _ x24 hj0t20))⟩ (hbk20 _ rfl)
      · have hm := ie hb hm
        obtain ⟨r28, e29, hm⟩ := ob hm
        refine s_asg w27 ((ev_call0 (g := (tops19, r22)) (ea_cons (ev_var (S := (rLst (rT2 (rTpl rInt) rInt)).s K tops19) rfl (Sv.mono _ x27 (Sv.mono _ x24 hj0t20))) (ea_cons (ev_var (S := (rLst rInt).s K r22) rfl (Sv.mono _ x27 h26)) ea_nil)) (al_p (fun _ z => z) (al_p (fun _ z => z) al_nil)) e29).le g_s) (fun w_v31 B30 H30 x30 w30 h32 => ?_)
        obtain ⟨⟨r33, state35⟩, e34, hm⟩ := ob hm
        try dsimp only at hm
        refine s_asg w30 (ev_T2 (ea_cons (ev_var (S := (rTpl rInt).s K r28) rfl h32) (ea_cons ((ev_call1 (g := (state17, size, r28, far)) 1 rfl (ea_cons (ev_var (S := SA p0) rfl rfl) (ea_cons (ev_var (S := rInt.s K size) rfl (Sv.mono _ x30 (Sv.mono _ x27 (Sv.mono _ x24 (Sv.mono _ xt20 (Sv.mono _ x12 (Sv.mono _ x9 z1))))))) (ea_cons (ev_var (S := (rTpl rInt).s K r28) rfl h32) (ea_cons (ev_var (S := rInt.s K far) rfl (Sv.mono _ x30 (Sv.mono _ x27 (Sv.mono _ x24 (Sv.mono _ xt20 (Sv.mono _ x12 (Sv.mono _ x9 z2))))))) ea_nil)))) rfl (al_p (fun a z => List.mem_of_mem_eraseIdx z) (al_p (fun a z => List.mem_of_mem_eraseIdx z) (al_p (fun a z => List.mem_of_mem_eraseIdx z) (al_p (fun a z => List.mem_of_mem_eraseIdx z) al_nil)))) e34 (csi (imm_flat _))).le g_s) ea_nil))) (fun w_v37 B36 H36 x36 w36 h38 => ?_)
        obtain ⟨xs39, e40, hm⟩ := ob hm
        obtain ⟨⟨ys43, _⟩, e44, hm⟩ := ob hm
        try dsimp only at hm
        obtain ⟨t47, e45, hm⟩ := ob hm
        refine s_asg w36 ((ev_catO (ev_lc (R := rInt) (R' := (rT2 (rTpl rInt) rInt)) (oo := (fun (rr : Unit) => [CL (rT2 (rTpl rInt) rInt) K nodes18, CL rInt K state35])) (fun (x_k : Int) (rr : Unit) => match rr with | () => some ((!decide (x_k ∈ r22)), ())) (fun (x_k : Int) (rr : Unit) => match rr with | () => (atI tops19 x_k).bind fun t41 => some (t41, ())) (lcT rInt K _ 10 [10]) (ei_r1 (ev_len (ev_var (S := (rLst (rT2 (rTpl rInt) rInt)).s K tops19) rfl (Sv.mono _ x36 (Sv.mono _ x30 (Sv.mono _ x27 (Sv.mono _ x24 hj0t20))))) src_p) e40) e44 (lcT_mono _ _ _ _ _) (lcT_name rfl 10 [10] (by intro x; rfl)) (fun x_k rr bb r1 σ2 B' pD acc ht eB ⟨vx, hσ, hx⟩ => by subst hσ; cases ht; exact (et_test (ev_notin (ev_var (S := rInt.s K x_k) rfl hx) (ev_var (S := (rLst rInt).s K r22) rfl (Sv.mono _ eB (Sv.mono _ x36 (Sv.mono _ x30 (Sv.mono _ x27 h26))))) src_p))) (fun x_k rr yy r1 σ2 B' pD acc he eB ⟨vx, hσ, hx⟩ => by subst hσ; obtain ⟨t41, e42, he⟩ := ob he; cases he; exact (ev_ix (ev_var (S := (rLst (rT2 (rTpl rInt) rInt)).s K tops19) rfl (Sv.mono _ eB (Sv.mono _ x36 (Sv.mono _ x30 (Sv.mono _ x27 (Sv.mono _ x24 hj0t20)))))) (ev_var (S := rInt.s K x_k) rfl hx) src_p e42))) (ev_lst (R := (rT2 (rTpl rInt) rInt)) (xs := [(r28, r33)]) (ea_cons (ev_var (S := (rT2 (rTpl rInt) rInt).s K (r28, r33)) rfl h38) ea_nil) (by show 1 ≤ 1000; decide)) src_n src_n e45).le sn_s) (fun w_v49 B48 H48 x48 w48 h50 => ?_)
        obtain ⟨nodes51, e52, hm⟩ := ob hm
        refine s_drop w48 (ev_app 0 rfl (ev_var (S := SA q10) rfl rfl) rfl (ev_var (S := (rT2 (rTpl rInt) rInt).s K (r28, r33)) rfl (Sv.mono _ x48 h38)) rfl e52) (fun B53 H53 x53 w53 => ?_)
        have hq_ := Option.some.inj hm
        subst hq_
        exact hN (state35, nodes51, t47) _ _ _ hfx (((((x24.trans x27).trans x30).trans x36).trans x48).trans x53) w53 ⟨_, w_v49, _, _, _, _, _, rfl, (Sv.mono _ x53 h50)⟩
    · rintro rr σ' B54 H54 x54 w54 ⟨o_4k55, v_5k55, o_6k55, o_7k55, o_8k55, o_9k55, o_10k55, rfl, hj0k55⟩ hm
      try dsimp only
      replace hm := finK_nx hm
      obtain ⟨state17, nodes18, tops19⟩ := rr
      obtain ⟨r56, e57, hm⟩ := ob hm
      refine s_ret w54 (ev_call0 (g := nodes18) (ea_cons (ev_var (S := SA q10) rfl rfl) ea_nil) (al_o (R := (rT2 (rTpl rInt) rInt)) (xs := nodes18) 0 rfl rfl (List.mem_of_getElem? (i := 0) rfl) (fun _ z => z) al_nil) e57) (fun vv B58 H58 x58 w58 hv => ?_)
      cases hm
      obtain ⟨oz, gz1, _, gz3, gz4⟩ := w58.cell.get (i := 1) rfl rfl
      exact k _ _ _ oz w58.st w58.ex gz1 gz3 gz4 (r_f w54 hv)
def m__law_parts : (List Int) × (List Int) × Int → Option ((List (List Int)) × (List Int)) := fun (state, places, many) =>
  (m__law_shuffled (state, places)).bind fun (r1, state3) =>
  (rngO (1 : Int) (r1.length : Int)).bind fun t7 =>
  (m__law_shuffled (state3, t7)).bind fun (r9, state11) =>
  (catO (isort (cut r9 none (some (many - (1 : Int))))) [(r1.length : Int)]).bind fun t23 =>
  finK (fun (rr : (List (List Int)) × Int) => match rr with | (parts24, low25) => (some (parts24, state11))) (fun (_ : Unit) => none) (forL (fun (mark27 : Int) (rr : (List (List Int)) × Int) => (match rr with | (parts24, low25) => ((appO parts24 (cut r1 (some low25) (some mark27))).bind fun parts28 =>
  some (.nx (parts28, mark27))) : Option (Ctl ((List (List Int)) × Int) Unit))) t23 (([] : List (List Int)), (0 : Int)))
def p__law_parts (K : Fg) : Sp := Pr1a K (fun (g : (List Int) × (List Int) × Int) p => [SA p, (rLst rInt).s K g.2.1, rInt.s K g.2.2]) (fun g => CL rInt K g.1) m__law_parts (fun e => CL rInt K e) (rLst (rLst rInt))
abbrev N__law_parts : List Str := ["state", "places", "many", "row", "marks", "parts", "low", "mark"]
theorem sc__law_parts : FnScope N__law_parts ["state", "places", "many"] (defScope s__law_parts) := ⟨rfl, rfl, rfl, by decide +kernel, rfl, by decide +kernel, by decide +kernel⟩
theorem ok__law_parts {P : Program} {w : World} {K : Fg} {mg : Str → Option Value} {base : Heap} (T : Tx P K mg) {fd : FuncData} (F : FnP K "_law_parts" s__law_parts (He.ga K "_law_parts") fd) : FnOk P w K mg base (L2.CX P w) 3 (He.ga K "_law_parts") fd ["state", "places", "many"] (p__law_parts K) := by
  obtain ⟨fd__law_shuffled, F__law_shuffled⟩ := T.f__law_shuffled
  have b__law_shuffled : Binds K fd__law_shuffled ["state", "row"] [] := F__law_shuffled.bindsN fun _ _ _ _ _ _ us hl => match us, hl with | [_, _], _ => rfl
  have G__law_shuffled : FnOk P w K mg base (L2.CX P w) 2 (He.ga K "_law_shuffled") fd__law_shuffled ["state", "row"] (p__law_shuffled K) := ok__law_shuffled T F__law_shuffled
  have sc := sc__law_parts
  refine F.ok sc (fun vs H Q E h => ?_) (fun cdv A outer s H vs Q E hr h => ?_)
  · obtain ⟨g, p, z, B, o, ss, _⟩ := h
    exact (Paired.length ss).trans rfl
  · obtain ⟨⟨state, places, many⟩, p0, z, B, o, ss, ex, h1, h2, h3, h4, hm, k⟩ := h
    obtain ⟨v0, v1, v2, rfl, z0, z1, z2⟩ := pn3 ss
    cases (show _ = V.ref p0 from z0)
    refine ⟨_, (pss_cons (ps_set (i := 3) sc.nd rfl (Or.inl rfl) (pe_call G__law_shuffled (hr.mono (by decide)) (by rfl) T.m__law_shuffled F__law_shuffled.kp b__law_shuffled .nil passL (pa_cons (pv 0) (pa_cons (pv 1) pa_nil)))) (pss_cons (ps_set (i := 4) sc.nd rfl (Or.inl rfl) (pe_callB (csrt (K := K) rfl) (by rfl) T.b_sorted (by decide +kernel) (pa_cons (pe_slice (sll (K := K) rfl) (pe_call G__law_shuffled (hr.mono (by decide)) (by rfl) T.m__law_shuffled F__law_shuffled.kp b__law_shuffled .nil passL (pa_cons (pv 0) (pa_cons (pe_listRg (by rfl) (by rfl) T.b_list (prg_2 (by rfl) T.b_range pe_int (pe_callB (clen (K := K) rfl) (by rfl) T.b_len (by decide +kernel) (pa_cons (pv 3) pa_nil)))) pa_nil))) po_none (po_some (pe_op op_sub (pv 2) pe_int))) pa_nil))) (pss_cons (ps_set (i := 5) sc.nd rfl (Or.inl rfl) (pe_lst pa_nil)) (pss_cons (ps_set (i := 6) sc.nd rfl (Or.inl rfl) pe_int) (pss_cons (ps_for (passes_of rfl) rfl (pi_list (pe_op op_cat (pv 4) (pe_lst (pa_cons (pe_callB (clen (K := K) rfl) (by rfl) T.b_len (by decide +kernel) (pa_cons (pv 3) pa_nil)) pa_nil)))) (pg_name (i := 7) sc.nd rfl (Or.inl rfl)) (pss_cons (ps_expr (pe_bm PySem.F.plainAttrs_list PySem.F.slot_list_append PySem.F.type_list_append mt_append (pv 5) (pa_cons (pe_slice (sll (K := K) rfl) (pv 3) (po_some (pv 6)) (po_some (pv 7))) pa_nil))) (pss_one (ps_set (i := 6) sc.nd rfl (Or.inl rfl) (pv 7))))) (pss_one (ps_ret (pv 5)))))))), ?_⟩
    have w := Wd.start1 (K := K) ex h1 h2 h3 h4
    unfold m__law_parts at hm
    obtain ⟨⟨r1, state3⟩, e2, hm⟩ := ob hm
    try dsimp only at hm
    refine s_asg w ((ev_call1 (g := (state, places)) 0 rfl (ea_cons (ev_var (S := SA p0) rfl rfl) (ea_cons (ev_var (S := (rLst rInt).s K places) rfl z1) ea_nil)) rfl (al_p (fun a z => List.mem_of_mem_eraseIdx z) (al_p (fun a z => List.mem_of_mem_eraseIdx z) al_nil)) e2 (csi (imm_flat _))).le g_s) (fun w_v5 B4 H4 x4 w4 h6 => ?_)
    obtain ⟨t7, e8, hm⟩ := ob hm
    obtain ⟨⟨r9, state11⟩, e10, hm⟩ := ob hm
    try dsimp only at hm
    refine s_asg w4 ((ev_sortI (ev_cut (ev_call1 (g := (state3, t7)) 0 rfl (ea_cons (ev_var (S := SA p0) rfl rfl) (ea_cons (ev_listR2 ev_int (ev_len (ev_var (S := (rLst rInt).s K r1) rfl h6) src_p) e8) ea_nil)) rfl (al_p (fun a z => List.mem_of_mem_eraseIdx z) (al_le sn_s (fun a z => List.mem_of_mem_eraseIdx z) al_nil)) e10 (csi (imm_flat _))) eo_none (eo_some (ev_sub (ev_var (S := rInt.s K many) rfl (Sv.mono _ x4 z2)) ev_int)) src_g) src_n).le sn_s) (fun w_v13 B12 H12 x12 w12 h14 => ?_)
    refine s_ownNil (rLst rInt) w12 (fun q16 H15 n17 w15 => ?_)
    try dsimp only
    refine s_asg w15 ev_int (fun w_v19 B18 H18 x18 w18 h20 => ?_)
    obtain ⟨t23, e21, hm⟩ := ob hm
    refine s_for (R := rInt) (oo := (fun (rr : (List (List Int)) × Int) => [CL (rLst rInt) K rr.1, CL rInt K state11])) (ρ0 := (([] : List (List Int)), (0 : Int))) (fun (mark27 : Int) (rr : (List (List Int)) × Int) => (match rr with | (parts24, low25) => ((appO parts24 (cut r1 (some low25) (some mark27))).bind fun parts28 =>
some (.nx (parts28, mark27))) : Option (Ctl ((List (List Int)) × Int) Unit))) (fun (rr : (List (List Int)) × Int) σ' B' => ∃ v_6 : V, ∃ o_7 : Option V, σ' = [some (.ref p0), some v1, some v2, some w_v5, some w_v13, some (.ref q16), some v_6, o_7] ∧ (rInt.s K rr.2).p v_6 B') (fun zz => finK _ _ zz = some _) w18 (ei_list ((ev_catO (ev_var (S := (rLst rInt).s K (isort (cut r9 none (some (many - (1 : Int)))))) rfl (Sv.mono _ x18 h14)) (ev_lst (R := rInt) (xs := [(r1.length : Int)]) (ea_cons (ev_len (ev_var (S := (rLst rInt).s K r1) rfl (Sv.mono _ x18 (Sv.mono _ x12 h6))) src_p) ea_nil) (by show 1 ≤ 1000; decide)) src_p src_n e21).le sn_s)) (fun rr σ' B1 B2 e ⟨v_6, o_7, hσ, hj0⟩ => ⟨v_6, o_7, hσ, Sv.mono _ e hj0⟩) (fun B2 e => ⟨w_v19, _, rfl, (Sv.mono _ e h20)⟩) hm ?_ ?_
    · rintro mark27 rst rr vx26 σ' Bt26 Ht26 xt26 wt26 ⟨v_6t26, o_7t26, rfl, hj0t26⟩ hx26 hf N hN dn
      dsimp only [gName]
      obtain ⟨parts24, low25⟩ := rr
      obtain ⟨ctl, hfx, hbk26, hrt26⟩ := forL_step hf
      have hm := hfx
      obtain ⟨parts28, e29, hm⟩ := ob hm
      refine s_drop wt26 (ev_app 0 rfl (ev_var (S := SA q16) rfl rfl) rfl ((ev_cut (ev_var (S := (rLst rInt).s K r1) rfl (Sv.mono _ xt26 (Sv.mono _ x18 (Sv.mono _ x12 h6)))) (eo_some (ev_var (S := rInt.s K low25) rfl hj0t26)) (eo_some (ev_var (S := rInt.s K mark27) rfl hx26)) src_p).le sn_s) rfl e29) (fun B30 H30 x30 w30 => ?_)
      refine s_asg w30 (ev_var (S := rInt.s K mark27) rfl (Sv.mono _ x30 hx26)) (fun w_v32 B31 H31 x31 w31 h33 => ?_)
      have hq_ := Option.some.inj hm
      subst hq_
      exact hN (parts28, mark27) _ _ _ hfx (x30.trans x31) w31 ⟨w_v32, _, rfl, h33⟩
    · rintro rr σ' B34 H34 x34 w34 ⟨v_6k35, o_7k35, rfl, hj0k35⟩ hm
      try dsimp only
      replace hm := finK_nx hm
      obtain ⟨parts24, low25⟩ := rr
      refine s_ret w34 (ev_var (S := SA q16) rfl rfl) (fun vv B36 H36 x36 w36 hv => ?_)
      cases (show vv = _ from hv)
      cases hm
      obtain ⟨Bz, xz, w37, rz⟩ := r_oa w36 n17
      obtain ⟨oz, gz1, _, gz3, gz4⟩ := w37.cell.get (i := 0) rfl rfl
      exact k _ _ _ oz w37.st w37.ex gz1 gz3 gz4 rz
def m__law_grown : (List Int) × Int × Int → Option ((List ((List Int) × Int)) × (List Int)) := fun (state, size, many) =>
  (rngO (0 : Int) size).bind fun t7 =>
  (m__law_pick (state, (if size < many then size else many))).bind fun (r9, state11) =>
  (m__law_parts (state11, t7, ((1 : Int) + r9))).bind fun (r12, state14) =>
  finK (fun (rr : (List Int) × (List ((List Int) × Int)) × (List Int)) => match rr with | (state15, todo16, seen17) => ((mulO (2 : Int) size).bind fun t59 =>
  (rngO (0 : Int) t59).bind fun xs61 =>
  finK (fun (rr : (List Int) × (List ((List Int) × Int)) × (List ((List Int) × Int))) => match rr with | (state63, todo64, nodes65) => ((m__law_normal nodes65).bind fun r138 =>
  some (r138, state63))) (fun (_ : Unit) => none) (forL (fun (turn67 : Int) (rr : (List Int) × (List ((List Int) × Int)) × (List ((List Int) × Int))) => (match rr with | (state63, todo64, nodes65) => (cond (decide ((todo64.length : Int) = (0 : Int))) (some (.bk (state63, todo64, nodes65))) ((popO todo64).bind fun (r69, todo70) =>
  (appO nodes65 ((isort r69.1), r69.2)).bind fun nodes78 =>
  (cond (decide ((1 : Int) < (r69.1.length : Int))) ((m__law_pick (state63, (3 : Int))).bind fun (r87, state89) =>
  (cond (decide (r87 = (0 : Int))) ((m__law_pick (state89, ((r69.1.length : Int) - (1 : Int)))).bind fun (r93, state95) =>
  some (state95, ((2 : Int) + r93))) (some (state89, (2 : Int)))).bind fun (state91, count92) =>
  (m__law_parts (state91, r69.1, count92)).bind fun (r101, state103) =>
  (rngO (0 : Int) count92).bind fun xs107 =>
  finK (fun (rr : (List Int) × (List ((List Int) × Int))) => match rr with | (state109, todo110) => (some (state109, todo110))) (fun (_ : Unit) => none) (forL (fun (x_k112 : Int) (rr : (List Int) × (List ((List Int) × Int))) => (match rr with | (state109, todo110) => ((modO (x_k112 + (1 : Int)) count92).bind fun t113 =>
  (atI r101 t113).bind fun t115 =>
  (atI r101 x_k112).bind fun t120 =>
  (m__law_pick (state109, (t115.length : Int))).bind fun (r122, state124) =>
  (atI t115 r122).bind fun t125 =>
  (appO todo110 (t120, t125)).bind fun todo127 =>
  some (.nx (state124, todo127))) : Option (Ctl ((List Int) × (List ((List Int) × Int))) Unit))) xs107 (state103, todo70))) (some (state63, todo70))).bind fun (state82, todo83) =>
  some (.nx (state82, todo83, nodes78)))) : Option (Ctl ((List Int) × (List ((List Int) × Int)) × (List ((List Int) × Int))) Unit))) xs61 (state15, todo16, ([] : List ((List Int) × Int)))))) (fun (_ : Unit) => none) (forL (fun (x_part19 : List Int) (rr : (List Int) × (List ((List Int) × Int)) × (List Int)) => (match rr with | (state15, todo16, seen17) => ((cond (decide ((0 : Int) < (seen17.length : Int))) ((m__law_pick (state15, (3 : Int))).bind fun (r23, state25) => some ((decide ((0 : Int) < r23)), state25)) (some (false, state15))).bind fun (b26, state28) =>
  (cond b26 ((m__law_pick (state28, (seen17.length : Int))).bind fun (r32, state34) =>
  (atI seen17 r32).bind fun t35 =>
  some (state34, t35)) (some (state28, (-(1 : Int))))).bind fun (state30, gate31) =>
  (appO todo16 (x_part19, gate31)).bind fun todo42 =>
  (catO seen17 x_part19).bind fun t47 =>
  some (.nx (state30, todo42, t47))) : Option (Ctl ((List Int) × (List ((List Int) × Int)) × (List Int)) Unit))) r12 (state14, ([] : List ((List Int) × Int)), ([] : List Int)))
def p__law_grown (K : Fg) : Sp := Pr1 K (fun (g : (List Int) × Int × Int) p => [SA p, rInt.s K g.2.1, rInt.s K g.2.2]) (fun g => CL rInt K g.1) m__law_grown (fun e => CL rInt K e) (rLst (rT2 (rTpl rInt) rInt))
abbrev N__law_grown : List Str := ["state", "size", "many", "todo", "seen", "part", "gate", "nodes", "turn", "node", "places", "count", "parts", "k", "after"]
theorem sc__law_grown : FnScope N__law_grown ["state", "size", "many"] (defScope s__law_grown) := ⟨rfl, rfl, rfl, by decide +kernel, rfl, by decide +kernel, by decide +kernel⟩
theorem ok__law_grown {P : Program} {w : World} {K : Fg} {mg : Str → Option Value} {base : Heap} (T : Tx P K mg) {fd : FuncData} (F : FnP K "_law_grown" s__law_grown (He.ga K "_law_grown") fd) : FnOk P w K mg base (L2.CX P w) 4 (He.ga K "_law_grown") fd ["state", "size", "many"] (p__law_grown K) := by
  obtain ⟨fd__law_normal, F__law_normal⟩ := T.f__law_normal
  have b__law_normal : Binds K fd__law_normal ["nodes"] [] := F__law_normal.bindsN fun _ _ _ _ _ _ us hl => match us, hl with | [_], _ => rfl
  have G__law_normal : FnOk P w K mg base (L2.CX P w) 1 (He.ga K "_law_normal") fd__law_normal ["nodes"] (p__law_normal K) := ok__law_normal T F__law_normal
  obtain ⟨fd__law_parts, F__law_parts⟩ := T.f__law_parts
  have b__law_parts : Binds K fd__law_parts ["state", "places", "many"] [] := F__law_parts.bindsN fun _ _ _ _ _ _ us hl => match us, hl with | [_, _, _], _ => rfl
  have G__law_parts : FnOk P w K mg base (L2.CX P w) 3 (He.ga K "_law_parts") fd__law_parts ["state", "places", "many"] (p__law_parts K) := ok__law_parts T F__law_parts
  obtain ⟨fd__law_pick, F__law_pick⟩ := T.f__law_pick
  have b__law_pick : Binds K fd__law_pick ["state", "many"] [] := F__law_pick.bindsN fun _ _ _ _ _ _ us hl => match us, hl with | [_, _], _ => rfl
  have G__law_pick : FnOk P w K mg base (L2.CX P w) 1 (He.ga K "_law_pick") fd__law_pick ["state", "many"] (p__law_pick K) := ok__law_pick T F__law_pick
  have sc := sc__law_grown
  refine F.ok sc (fun vs H Q E h => ?_) (fun cdv A outer s H vs Q E hr h => ?_)
  · obtain ⟨g, p, z, B, o, ss, _⟩ := h
    exact (Paired.length ss).trans rfl
  · obtain ⟨⟨state, size, many⟩, p0, z, B, o, ss, ex, h1, h2, h3, h4, hm, k⟩ := h
    obtain ⟨v0, v1, v2, rfl, z0, z1, z2⟩ := pn3 ss
    cases (show _ = V.ref p0 from z0)
    refine ⟨_, (pss_cons (ps_set (i := 3) sc.nd rfl (Or.inl rfl) (pe_lst pa_nil)) (pss_cons (ps_set (i := 4) sc.nd rfl (Or.inl rfl) (pe_lst pa_nil)) (pss_cons (ps_for (passes_of rfl) rfl (pi_list (pe_call G__law_parts (hr.mono (by decide)) (by rfl) T.m__law_parts F__law_parts.kp b__law_parts .nil passL (pa_cons (pv 0) (pa_cons (pe_listRg (by rfl) (by rfl) T.b_list (prg_1 (by rfl) T.b_range (pv 1))) (pa_cons (pe_op op_add pe_int (pe_call G__law_pick (hr.mono (by decide)) (by rfl) T.m__law_pick F__law_pick.kp b__law_pick .nil passL (pa_cons (pv 0) (pa_cons (pe_callB (call_min2 rfl) (by rfl) T.b_min (by decide +kernel) (pa_cons (pv 2) (pa_cons (pv 1) pa_nil))) pa_nil)))) pa_nil))))) (pg_name (i := 5) sc.nd rfl (Or.inl rfl)) (pss_cons (ps_set (i := 6) sc.nd rfl (Or.inl rfl) (pe_un un_neg pe_int)) (pss_cons (ps_if (PW.pt (pw_and (pt_cmpR op_gt (pe_callB (clen (K := K) rfl) (by rfl) T.b_len (by decide +kernel) (pa_cons (pv 4) pa_nil)) pe_int (nomark _)) (pw_and1 (pt_cmpR op_gt (pe_call G__law_pick (hr.mono (by decide)) (by rfl) T.m__law_pick F__law_pick.kp b__law_pick .nil passL (pa_cons (pv 0) (pa_cons pe_int pa_nil))) pe_int (nomark _))))) (pss_one (ps_set (i := 6) sc.nd rfl (Or.inl rfl) (pe_ix (ixl (K := K) rfl) (pv 4) (pe_call G__law_pick (hr.mono (by decide)) (by rfl) T.m__law_pick F__law_pick.kp b__law_pick .nil passL (pa_cons (pv 0) (pa_cons (pe_callB (clen (K := K) rfl) (by rfl) T.b_len (by decide +kernel) (pa_cons (pv 4) pa_nil)) pa_nil))) (fun _ _ => rfl)))) pss_nil) (pss_cons (ps_expr (pe_bm PySem.F.plainAttrs_list PySem.F.slot_list_append PySem.F.type_list_append mt_append (pv 3) (pa_cons (pe_tup (pa_cons (pv 5) (pa_cons (pv 6) pa_nil))) pa_nil))) (pss_one (ps_set (i := 4) sc.nd rfl (Or.inl rfl) (pe_op op_cat (pv 4) (pv 5)))))))) (pss_cons (ps_set (i := 7) sc.nd rfl (Or.inl rfl) (pe_lst pa_nil)) (pss_cons (ps_for (passes_of rfl) rfl (pi_range1 (by rfl) T.b_range (pa_cons (pe_op op_mul pe_int (pv 1)) pa_nil)) (pg_name (i := 8) sc.nd rfl (Or.inl rfl)) (pss_cons (ps_if (pt_cmpR op_eq (pe_callB (clen (K := K) rfl) (by rfl) T.b_len (by decide +kernel) (pa_cons (pv 3) pa_nil)) pe_int (nomark _)) (pss_one ps_break) pss_nil) (pss_cons (ps_set (i := 9) sc.nd rfl (Or.inl rfl) (pe_bm0 PySem.F.plainAttrs_list PySem.F.slot_list_pop PySem.F.type_list_pop mt_pop (pv 3))) (pss_cons (ps_set (i := 10) sc.nd rfl (Or.inl rfl) (pe_ix (ixt (K := K) rfl) (pv 9) pe_int (fun _ _ => rfl))) (pss_cons (ps_expr (pe_bm PySem.F.plainAttrs_list PySem.F.slot_list_append PySem.F.type_list_append mt_append (pv 7) (pa_cons (pe_tup (pa_cons (pe_callTy (ctup (K := K) rfl) (by rfl) T.b_tuple (by decide +kernel) (pa_cons (pe_callB (csrt (K := K) rfl) (by rfl) T.b_sorted (by decide +kernel) (pa_cons (pv 10) pa_nil)) pa_nil)) (pa_cons (pe_ix (ixt (K := K) rfl) (pv 9) pe_int (fun _ _ => rfl)) pa_nil))) pa_nil))) (pss_one (ps_if (pt_cmpR op_gt (pe_callB (clen (K := K) rfl) (by rfl) T.b_len (by decide +kernel) (pa_cons (pv 10) pa_nil)) pe_int (nomark _)) (pss_cons (ps_set (i := 11) sc.nd rfl (Or.inl rfl) pe_int) (pss_cons (ps_if (pt_cmpR op_eq (pe_call G__law_pick (hr.mono (by decide)) (by rfl) T.m__law_pick F__law_pick.kp b__law_pick .nil passL (pa_cons (pv 0) (pa_cons pe_int pa_nil))) pe_int (nomark _)) (pss_one (ps_set (i := 11) sc.nd rfl (Or.inl rfl) (pe_op op_add pe_int (pe_call G__law_pick (hr.mono (by decide)) (by rfl) T.m__law_pick F__law_pick.kp b__law_pick .nil passL (pa_cons (pv 0) (pa_cons (pe_op op_sub (pe_callB (clen (K := K) rfl) (by rfl) T.b_len (by decide +kernel) (pa_cons (pv 10) pa_nil)) pe_int) pa_nil)))))) pss_nil) (pss_cons (ps_set (i := 12) sc.nd rfl (Or.inl rfl) (pe_call G__law_parts (hr.mono (by decide)) (by rfl) T.m__law_parts F__law_parts.kp b__law_parts .nil passL (pa_cons (pv 0) (pa_cons (pv 10) (pa_cons (pv 11) pa_nil))))) (pss_one (ps_for (passes_of rfl) rfl (pi_range1 (by rfl) T.b_range (pa_cons (pv 11) pa_nil)) (pg_name (i := 13) sc.nd rfl (Or.inl rfl)) (pss_cons (ps_set (i := 14) sc.nd rfl (Or.inl rfl) (pe_ix (ixl (K := K) rfl) (pv 12) (pe_op op_modN (pe_callTy call_int1 (by rfl) T.b_int (by decide +kernel) (pa_cons (pe_op op_add (pv 13) pe_int) pa_nil)) (pv 11)) (fun _ _ => rfl))) (pss_one (ps_expr (pe_bm PySem.F.plainAttrs_list PySem.F.slot_list_append PySem.F.type_list_append mt_append (pv 3) (pa_cons (pe_tup (pa_cons (pe_ix (ixl (K := K) rfl) (pv 12) (pv 13) (fun _ _ => rfl)) (pa_cons (pe_ix (ixl (K := K) rfl) (pv 14) (pe_call G__law_pick (hr.mono (by decide)) (by rfl) T.m__law_pick F__law_pick.kp b__law_pick .nil passL (pa_cons (pv 0) (pa_cons (pe_callB (clen (K := K) rfl) (by rfl) T.b_len (by decide +kernel) (pa_cons (pv 14) pa_nil)) pa_nil))) (fun _ _ => rfl)) pa_nil))) pa_nil)))))))))) pss_nil))))))) (pss_one (ps_ret (pe_call G__law_normal (hr.mono (by decide)) (by rfl) T.m__law_normal F__law_normal.kp b__law_normal .nil passL (pa_cons (pv 7) pa_nil))))))))), ?_⟩
    have w := Wd.start1 (K := K) ex h1 h2 h3 h4
    unfold m__law_grown at hm
    refine s_ownNil (rT2 (rLst rInt) rInt) w (fun q2 H1 n3 w1 => ?_)
    try dsimp only
    refine s_asg w1 ((ev_lst (R := rInt) (xs := []) ea_nil (by decide)).le sn_s) (fun w_v5 B4 H4 x4 w4 h6 => ?_)
    obtain ⟨t7, e8, hm⟩ := ob hm
    obtain ⟨⟨r9, state11⟩, e10, hm⟩ := ob hm
    try dsimp only at hm
    obtain ⟨⟨r12, state14⟩, e13, hm⟩ := ob hm
    try dsimp only at hm
    refine s_for (R := (rLst rInt)) (oo := (fun (rr : (List Int) × (List ((List Int) × Int)) × (List Int)) => [CL (rT2 (rLst rInt) rInt) K rr.2.1, CL rInt K rr.1])) (ρ0 := (state14, ([] : List ((List Int) × Int)), ([] : List Int))) (fun (x_part19 : List Int) (rr : (List Int) × (List ((List Int) × Int)) × (List Int)) => (match rr with | (state15, todo16, seen17) => ((cond (decide ((0 : Int) < (seen17.length : Int))) ((m__law_pick (state15, (3 : Int))).bind fun (r23, state25) => some ((decide ((0 : Int) < r23)), state25)) (some (false, state15))).bind fun (b26, state28) =>
(cond b26 ((m__law_pick (state28, (seen17.length : Int))).bind fun (r32, state34) =>
(atI seen17 r32).bind fun t35 =>
some (state34, t35)) (some (state28, (-(1 : Int))))).bind fun (state30, gate31) =>
(appO todo16 (x_part19, gate31)).bind fun todo42 =>
(catO seen17 x_part19).bind fun t47 =>
some (.nx (state30, todo42, t47))) : Option (Ctl ((List Int) × (List ((List Int) × Int)) × (List Int)) Unit))) (fun (rr : (List Int) × (List ((List Int) × Int)) × (List Int)) σ' B' => ∃ v_4 : V, ∃ o_5 : Option V, ∃ o_6 : Option V, ∃ o_7 : Option V, ∃ o_8 : Option V, ∃ o_9 : Option V, ∃ o_10 : Option V, ∃ o_11 : Option V, ∃ o_12 : Option V, ∃ o_13 : Option V, ∃ o_14 : Option V, σ' = [some (.ref p0), some v1, some v2, some (.ref q2), some v_4, o_5, o_6, o_7, o_8, o_9, o_10, o_11, o_12, o_13, o_14] ∧ ((rLst rInt).s K rr.2.2).p v_4 B') (fun zz => finK _ _ zz = some _) w4 (ei_list (ev_call1a (g := (state11, t7, ((1 : Int) + r9))) 1 rfl (ea_cons (ev_var (S := SA p0) rfl rfl) (ea_cons (ev_listR1 (ev_var (S := rInt.s K size) rfl (Sv.mono _ x4 z1)) e8) (ea_cons (ev_add ev_int ((ev_call1 (g := (state, (if size < many then size else many))) 1 rfl (ea_cons (ev_var (S := SA p0) rfl rfl) (ea_cons (ev_min2 (ev_var (S := rInt.s K many) rfl (Sv.mono _ x4 z2)) (ev_var (S := rInt.s K size) rfl (Sv.mono _ x4 z1))) ea_nil)) rfl (al_p (fun a z => List.mem_of_mem_eraseIdx z) (al_p (fun a z => List.mem_of_mem_eraseIdx z) al_nil)) e10 (csi (imm_flat _))).le g_s)) ea_nil))) rfl (al_p (fun _ z => absurd z List.not_mem_nil) (al_le sn_s (fun _ z => absurd z List.not_mem_nil) (al_p (fun _ z => absurd z List.not_mem_nil) al_nil))) e13)) (fun rr σ' B1 B2 e ⟨v_4, o_5, o_6, o_7, o_8, o_9, o_10, o_11, o_12, o_13, o_14, hσ, hj0⟩ => ⟨v_4, o_5, o_6, o_7, o_8, o_9, o_10, o_11, o_12, o_13, o_14, hσ, Sv.mono _ e hj0⟩) (fun B2 e => ⟨w_v5, _, _, _, _, _, _, _, _, _, _, rfl, (Sv.mono _ e h6)⟩) hm ?_ ?_
    · rintro x_part19 rst rr vx18 σ' Bt18 Ht18 xt18 wt18 ⟨v_4t18, o_5t18, o_6t18, o_7t18, o_8t18, o_9t18, o_10t18, o_11t18, o_12t18, o_13t18, o_14t18, rfl, hj0t18⟩ hx18 hf N hN dn
      dsimp only [gName]
      obtain ⟨state15, todo16, seen17⟩ := rr
      obtain ⟨ctl, hfx, hbk18, hrt18⟩ := forL_step hf
      have hm := hfx
      refine s_asg wt18 (ev_neg ev_int) (fun w_v21 B20 H20 x20 w20 h22 => ?_)
      obtain ⟨⟨b26, state28⟩, e27, hm⟩ := ob hm
      try dsimp only at hm
      obtain ⟨rj, hA51, hm⟩ := ob hm
      refine s_ifJ (ks2 := [q2, p0]) (oo := (fun (rr : (List Int) × Int) => [CL (rT2 (rLst rInt) rInt) K todo16, CL rInt K rr.1])) (fun (rr : (List Int) × Int) σ' B' => ∃ v_6 : V, ∃ o_7 : Option V, ∃ o_8 : Option V, ∃ o_9 : Option V, ∃ o_10 : Option V, ∃ o_11 : Option V, ∃ o_12 : Option V, ∃ o_13 : Option V, ∃ o_14 : Option V, σ' = [some (.ref p0), some v1, some v2, some (.ref q2), some v_4t18, some vx18, some v_6, o_7, o_8, o_9, o_10, o_11, o_12, o_13, o_14] ∧ (rInt.s K rr.2).p v_6 B') (fun rr => rr = rj) w20 (et_andO (o3 := [CL (rT2 (rLst rInt) rInt) K todo16, CL rInt K state28]) (b := b26) (et_test (ev_gt (ev_len (ev_var (S := (rLst rInt).s K seen17) rfl (Sv.mono _ x20 hj0t18)) src_p) ev_int)) (fun hc => by have e27 := it hc e27; obtain ⟨⟨r23, state25⟩, e24, e27⟩ := ob e27; try dsimp only at e27; have hs0_ := Option.some.inj e27; obtain ⟨hq0_, hs1_⟩ := Prod.mk.inj hs0_; subst hq0_; subst hs1_; exact (et_test (ev_gt ((ev_call1 (g := (state15, (3 : Int))) 1 rfl (ea_cons (ev_var (S := SA p0) rfl rfl) (ea_cons ev_int ea_nil)) rfl (al_p (fun a z => List.mem_of_mem_eraseIdx z) (al_p (fun a z => List.mem_of_mem_eraseIdx z) al_nil)) e24 (csi (imm_flat _))).le g_s) ev_int))) (fun hc => by have e27 := ie hc e27; cases e27; exact ⟨rfl, rfl⟩)) ?_ (fun hb B29 H29 x29 w29 N hN => ?_) (fun hb B29 H29 x29 w29 N hN => ?_)
      · rintro rr σ' B40 H40 x40 w40 ⟨v_6k41, o_7k41, o_8k41, o_9k41, o_10k41, o_11k41, o_12k41, o_13k41, o_14k41, rfl, hj0k41⟩ hq
        subst hq
        obtain ⟨state30, gate31⟩ := rr
        try dsimp only
        obtain ⟨todo42, e43, hm⟩ := ob hm
        refine s_drop w40 (ev_app 0 rfl (ev_var (S := SA q2) rfl rfl) rfl (ev_T2 (ea_cons (ev_var (S := (rLst rInt).s K x_part19) rfl (Sv.mono _ x40 (Sv.mono _ x20 hx18))) (ea_cons (ev_var (S := rInt.s K gate31) rfl hj0k41) ea_nil))) rfl e43) (fun B44 H44 x44 w44 => ?_)
        obtain ⟨t47, e45, hm⟩ := ob hm
        refine s_asg w44 ((ev_catO (ev_var (S := (rLst rInt).s K seen17) rfl (Sv.mono _ x44 (Sv.mono _ x40 (Sv.mono _ x20 hj0t18)))) (ev_var (S := (rLst rInt).s K x_part19) rfl (Sv.mono _ x44 (Sv.mono _ x40 (Sv.mono _ x20 hx18)))) src_p src_p e45).le sn_s) (fun w_v49 B48 H48 x48 w48 h50 => ?_)
        have hq_ := Option.some.inj hm
        subst hq_
        exact hN (state30, todo42, t47) _ _ _ hfx (((x20.trans x40).trans x44).trans x48) w48 ⟨w_v49, _, _, _, _, _, _, _, _, _, _, rfl, h50⟩
      · have hm := it hb hA51
        obtain ⟨⟨r32, state34⟩, e33, hm⟩ := ob hm
        try dsimp only at hm
        obtain ⟨t35, e36, hm⟩ := ob hm
        refine s_asg w29 (ev_ix (ev_var (S := (rLst rInt).s K seen17) rfl (Sv.mono _ x29 (Sv.mono _ x20 hj0t18))) ((ev_call1 (g := (state28, (seen17.length : Int))) 1 rfl (ea_cons (ev_var (S := SA p0) rfl rfl) (ea_cons (ev_len (ev_var (S := (rLst rInt).s K seen17) rfl (Sv.mono _ x29 (Sv.mono _ x20 hj0t18))) src_p) ea_nil)) rfl (al_p (fun a z => List.mem_of_mem_eraseIdx z) (al_p (fun a z => List.mem_of_mem_eraseIdx z) al_nil)) e33 (csi (imm_flat _))).le g_s) src_p e36) (fun w_v38 B37 H37 x37 w37 h39 => ?_)
        have hq_ := Option.some.inj hm
        subst hq_
        exact hN (state34, t35) _ _ _ (x29.trans x37) w37 ⟨w_v38, _, _, _, _, _, _, _, _, rfl, h39⟩ rfl
      · have hm := ie hb hA51
        have hq_ := Option.some.inj hm
        subst hq_
        exact hN (state28, (-(1 : Int))) _ _ _ x29 w29 ⟨w_v21, _, _, _, _, _, _, _, _, rfl, (Sv.mono _ x29 h22)⟩ rfl
    · rintro rr σ' B52 H52 x52 w52 ⟨v_4k53, o_5k53, o_6k53, o_7k53, o_8k53, o_9k53, o_10k53, o_11k53, o_12k53, o_13k53, o_14k53, rfl, hj0k53⟩ hm
      try dsimp only
      replace hm := finK_nx hm
      obtain ⟨state15, todo16, seen17⟩ := rr
      have wp54 := Wd.pin w52 0 rfl
      refine s_ownNil (rT2 (rTpl rInt) rInt) wp54 (fun q56 H55 n57 w55 => ?_)
      try dsimp only
      have wp58 := Wd.unpin w55 1 rfl (Same.refl _)
      obtain ⟨t59, e60, hm⟩ := ob hm
      obtain ⟨xs61, e62, hm⟩ := ob hm
      refine s_for (R := rInt) (oo := (fun (rr : (List Int) × (List ((List Int) × Int)) × (List ((List Int) × Int))) => [CL (rT2 (rTpl rInt) rInt) K rr.2.2, CL (rT2 (rLst rInt) rInt) K rr.2.1, CL rInt K rr.1])) (ρ0 := (state15, todo16, ([] : List ((List Int) × Int)))) (fun (turn67 : Int) (rr : (List Int) × (List ((List Int) × Int)) × (List ((List Int) × Int))) => (match rr with | (state63, todo64, nodes65) => (cond (decide ((todo64.length : Int) = (0 : Int))) (some (.bk (state63, todo64, nodes65))) ((popO todo64).bind fun (r69, todo70) =>
(appO nodes65 ((isort r69.1), r69.2)).bind fun nodes78 =>
(cond (decide ((1 : Int) < (r69.1.length : Int))) ((m__law_pick (state63, (3 : Int))).bind fun (r87, state89) =>
(cond (decide (r87 = (0 : Int))) ((m__law_pick (state89, ((r69.1.length : Int) - (1 : Int)))).bind fun (r93, state95) =>
some (state95, ((2 : Int) + r93))) (some (state89, (2 : Int)))).bind fun (state91, count92) =>
(m__law_parts (state91, r69.1, count92)).bind fun (r101, state103) =>
(rngO (0 : Int) count92).bind fun xs107 =>
finK (fun (rr : (List Int) × (List ((List Int) × Int))) => match rr with | (state109, todo110) => (some (state109, todo110))) (fun (_ : Unit) => none) (forL (fun (x_k112 : Int) (rr : (List Int) × (List ((List Int) × Int))) => (match rr with | (state109, todo110) => ((modO (x_k112 + (1 : Int)) count92).bind fun t113 =>
(atI r101 t113).bind fun t115 =>
(atI r101 x_k112).bind fun t120 =>
(m__law_pick (state109, (t115.length : Int))).bind fun (r122, state124) =>
(atI t115 r122).bind fun t125 =>
(appO todo110 (t120, t125)).bind fun todo127 =>
some (.nx (state124, todo127))) : Option (Ctl ((List Int) × (List ((List Int) × Int))) Unit))) xs107 (state103, todo70))) (some (state63, todo70))).bind fun (state82, todo83) =>
some (.nx (state82, todo83, nodes78)))) : Option (Ctl ((List Int) × (List ((List Int) × Int)) × (List ((List Int) × Int))) Unit))) (fun (rr : (List Int) × (List ((List Int) × Int)) × (List ((List Int) × Int))) σ' B' => ∃ o_5 : Option V, ∃ o_6 : Option V, ∃ o_8 : Option V, ∃ o_9 : Option V, ∃ o_10 : Option V, ∃ o_11 : Option V, ∃ o_12 : Option V, ∃ o_13 : Option V, ∃ o_14 : Option V, σ' = [some (.ref p0), some v1, some v2, some (.ref q2), some v_4k53, o_5, o_6, some (.ref q56), o_8, o_9, o_10, o_11, o_12, o_13, o_14]) (fun zz => finK _ _ zz = some _) wp58 (ei_r1 (ev_mul ev_int (ev_var (S := rInt.s K size) rfl (Sv.mono _ x52 (Sv.mono _ x4 z1))) e60) e62) (fun rr σ' B1 B2 e ⟨o_5, o_6, o_8, o_9, o_10, o_11, o_12, o_13, o_14, hσ⟩ => ⟨o_5, o_6, o_8, o_9, o_10, o_11, o_12, o_13, o_14, hσ⟩) (fun B2 e => ⟨_, _, _, _, _, _, _, _, _, rfl⟩) hm ?_ ?_
      · rintro turn67 rst rr vx66 σ' Bt66 Ht66 xt66 wt66 ⟨o_5t66, o_6t66, o_8t66, o_9t66, o_10t66, o_11t66, o_12t66, o_13t66, o_14t66, rfl⟩ hx66 hf N hN dn
        dsimp only [gName]
        obtain ⟨state63, todo64, nodes65⟩ := rr
        obtain ⟨ctl, hfx, hbk66, hrt66⟩ := forL_step hf
        have hm := hfx
        try dsimp only
        refine s_if wt66 (et_test (ev_eqI (ev_len (ev_var (S := SA q2) rfl rfl) (src_o (R := (rT2 (rLst rInt) rInt)) (xs := todo64) 1 rfl rfl)) ev_int)) (fun hb B68 H68 x68 w68 => ?_) (fun hb B68 H68 x68 w68 => ?_)
        · have hm := it hb hm
          have hq_ := Option.some.inj hm
          subst hq_
          exact dn _ _ _ _ (xt66.trans x68) w68 ⟨_, _, _, _, _, _, _, _, _, rfl⟩ (hbk66 _ rfl)
        · have hm := ie hb hm
          obtain ⟨⟨r69, todo70⟩, e71, hm⟩ := ob hm
          try dsimp only at hm
          refine s_asg w68 (ev_pop 1 rfl (ev_var (S := SA q2) rfl rfl) rfl e71) (fun w_v73 B72 H72 x72 w72 h74 => ?_)
          refine s_asg w72 (ev_T2a (ev_var (S := (rT2 (rLst rInt) rInt).s K r69) rfl h74)) (fun w_v76 B75 H75 x75 w75 h77 => ?_)
          obtain ⟨nodes78, e79, hm⟩ := ob hm
          refine s_drop w75 (ev_app 0 rfl (ev_var (S := SA q56) rfl rfl) rfl (ev_T2 (ea_cons (ev_tuple (ev_sortI (ev_var (S := (rLst rInt).s K r69.1) rfl h77) src_p) src_n) (ea_cons (ev_T2b (ev_var (S := (rT2 (rLst rInt) rInt).s K r69) rfl (Sv.mono _ x75 h74))) ea_nil))) rfl e79) (fun B80 H80 x80 w80 => ?_)
          obtain ⟨rj, hA135, hm⟩ := ob hm
          refine s_ifJ (ks2 := [q56, q2, p0]) (oo := (fun (rr : (List Int) × (List ((List Int) × Int))) => [CL (rT2 (rTpl rInt) rInt) K nodes78, CL (rT2 (rLst rInt) rInt) K rr.2, CL rInt K rr.1])) (fun (rr : (List Int) × (List ((List Int) × Int))) σ' B' => ∃ o_5 : Option V, ∃ o_6 : Option V, ∃ o_11 : Option V, ∃ o_12 : Option V, ∃ o_13 : Option V, ∃ o_14 : Option V, σ' = [some (.ref p0), some v1, some v2, some (.ref q2), some v_4k53, o_5, o_6, some (.ref q56), some vx66, some w_v73, some w_v76, o_11, o_12, o_13, o_14]) (fun rr => rr = rj) w80 (et_test (ev_gt (ev_len (ev_var (S := (rLst rInt).s K r69.1) rfl (Sv.mono _ x80 h77)) src_p) ev_int)) ?_ (fun hb B81 H81 x81 w81 N hN => ?_) (fun hb B81 H81 x81 w81 N hN => ?_)
          · rintro rr σ' B133 H133 x133 w133 ⟨o_5k134, o_6k134, o_11k134, o_12k134, o_13k134, o_14k134, rfl⟩ hq
            subst hq
            obtain ⟨state82, todo83⟩ := rr
            try dsimp only
            have hq_ := Option.some.inj hm
            subst hq_
            exact hN (state82, todo83, nodes78) _ _ _ hfx ((((x68.trans x72).trans x75).trans x80).trans x133) w133 ⟨_, _, _, _, _, _, _, _, _, rfl⟩
          · have hm := it hb hA135
            refine s_asg w81 ev_int (fun w_v85 B84 H84 x84 w84 h86 => ?_)
            obtain ⟨⟨r87, state89⟩, e88, hm⟩ := ob hm
            try dsimp only at hm
            obtain ⟨rj, hA132, hm⟩ := ob hm
            refine s_ifJ (ks2 := [q56, q2, p0]) (oo := (fun (rr : (List Int) × Int) => [CL (rT2 (rTpl rInt) rInt) K nodes78, CL (rT2 (rLst rInt) rInt) K todo70, CL rInt K rr.1])) (fun (rr : (List Int) × Int) σ' B' => ∃ o_5 : Option V, ∃ o_6 : Option V, ∃ v_11 : V, ∃ o_12 : Option V, ∃ o_13 : Option V, ∃ o_14 : Option V, σ' = [some (.ref p0), some v1, some v2, some (.ref q2), some v_4k53, o_5, o_6, some (.ref q56), some vx66, some w_v73, some w_v76, some v_11, o_12, o_13, o_14] ∧ (rInt.s K rr.2).p v_11 B') (fun rr => rr = rj) w84 (et_test (ev_eqI ((ev_call1 (g := (state63, (3 : Int))) 2 rfl (ea_cons (ev_var (S := SA p0) rfl rfl) (ea_cons ev_int ea_nil)) rfl (al_p (fun a z => List.mem_of_mem_eraseIdx z) (al_p (fun a z => List.mem_of_mem_eraseIdx z) al_nil)) e88 (csi (imm_flat _))).le g_s) ev_int)) ?_ (fun hb B90 H90 x90 w90 N hN => ?_) (fun hb B90 H90 x90 w90 N hN => ?_)
            · rintro rr σ' B99 H99 x99 w99 ⟨o_5k100, o_6k100, v_11k100, o_12k100, o_13k100, o_14k100, rfl, hj0k100⟩ hq
              subst hq
              obtain ⟨state91, count92⟩ := rr
              try dsimp only
              obtain ⟨⟨r101, state103⟩, e102, hm⟩ := ob hm
              try dsimp only at hm
              refine s_asg w99 (ev_call1a (g := (state91, r69.1, count92)) 2 rfl (ea_cons (ev_var (S := SA p0) rfl rfl) (ea_cons (ev_var (S := (rLst rInt).s K r69.1) rfl (Sv.mono _ x99 (Sv.mono _ x84 (Sv.mono _ x81 (Sv.mono _ x80 h77))))) (ea_cons (ev_var (S := rInt.s K count92) rfl hj0k100) ea_nil))) rfl (al_p (fun _ z => absurd z List.not_mem_nil) (al_p (fun _ z => absurd z List.not_mem_nil) (al_p (fun _ z => absurd z List.not_mem_nil) al_nil))) e102) (fun w_v105 B104 H104 x104 w104 h106 => ?_)
              obtain ⟨xs107, e108, hm⟩ := ob hm
              refine s_for (R := rInt) (oo := (fun (rr : (List Int) × (List ((List Int) × Int))) => [CL (rT2 (rTpl rInt) rInt) K nodes78, CL (rT2 (rLst rInt) rInt) K rr.2, CL rInt K rr.1])) (ρ0 := (state103, todo70)) (fun (x_k112 : Int) (rr : (List Int) × (List ((List Int) × Int))) => (match rr with | (state109, todo110) => ((modO (x_k112 + (1 : Int)) count92).bind fun t113 =>
(atI r101 t113).bind fun t115 =>
(atI r101 x_k112).bind fun t120 =>
(m__law_pick (state109, (t115.length : Int))).bind fun (r122, state124) =>
(atI t115 r122).bind fun t125 =>
(appO todo110 (t120, t125)).bind fun todo127 =>
some (.nx (state124, todo127))) : Option (Ctl ((List Int) × (List ((List Int) × Int))) Unit))) (fun (rr : (List Int) × (List ((List Int) × Int))) σ' B' => ∃ o_5 : Option V, ∃ o_6 : Option V, ∃ o_13 : Option V, ∃ o_14 : Option V, σ' = [some (.ref p0), some v1, some v2, some (.ref q2), some v_4k53, o_5, o_6, some (.ref q56), some vx66, some w_v73, some w_v76, some v_11k100, some w_v105, o_13, o_14]) (fun zz => finK _ _ zz = some _) w104 (ei_r1 (ev_var (S := rInt.s K count92) rfl (Sv.mono _ x104 hj0k100)) e108) (fun rr σ' B1 B2 e ⟨o_5, o_6, o_13, o_14, hσ⟩ => ⟨o_5, o_6, o_13, o_14, hσ⟩) (fun B2 e => ⟨_, _, _, _, rfl⟩) hm ?_ ?_
              · rintro x_k112 rst rr vx111 σ' Bt111 Ht111 xt111 wt111 ⟨o_5t111, o_6t111, o_13t111, o_14t111, rfl⟩ hx111 hf N hN dn
                dsimp only [gName]
                obtain ⟨state109, todo110⟩ := rr
                obtain ⟨ctl, hfx, hbk111, hrt111⟩ := forL_step hf
                have hm := hfx
                obtain ⟨t113, e114, hm⟩ := ob hm
                obtain ⟨t115, e116, hm⟩ := ob hm
                refine s_asg wt111 (ev_ix (ev_var (S := (rLst (rLst rInt)).s K r101) rfl (Sv.mono _ xt111 h106)) (ev_mod (ev_int1 (ev_add (ev_var (S := rInt.s K x_k112) rfl hx111) ev_int)) (ev_var (S := rInt.s K count92) rfl (Sv.mono _ xt111 (Sv.mono _ x104 hj0k100))) e114) src_p e116) (fun w_v118 B117 H117 x117 w117 h119 => ?_)
                obtain ⟨t120, e121, hm⟩ := ob hm
                obtain ⟨⟨r122, state124⟩, e123, hm⟩ := ob hm
                try dsimp only at hm
                obtain ⟨t125, e126, hm⟩ := ob hm
                obtain ⟨todo127, e128, hm⟩ := ob hm
                refine s_drop w117 (ev_app 1 rfl (ev_var (S := SA q2) rfl rfl) rfl (ev_T2 (ea_cons (ev_ix (ev_var (S := (rLst (rLst rInt)).s K r101) rfl (Sv.mono _ x117 (Sv.mono _ xt111 h106))) (ev_var (S := rInt.s K x_k112) rfl (Sv.mono _ x117 hx111)) src_p e121) (ea_cons (ev_ix (ev_var (S := (rLst rInt).s K t115) rfl h119) ((ev_call1 (g := (state109, (t115.length : Int))) 2 rfl (ea_cons (ev_var (S := SA p0) rfl rfl) (ea_cons (ev_len (ev_var (S := (rLst rInt).s K t115) rfl h119) src_p) ea_nil)) rfl (al_p (fun a z => List.mem_of_mem_eraseIdx z) (al_p (fun a z => List.mem_of_mem_eraseIdx z) al_nil)) e123 (csi (imm_flat _))).le g_s) src_p e126) ea_nil))) rfl e128) (fun B129 H129 x129 w129 => ?_)
                have hq_ := Option.some.inj hm
                subst hq_
                exact hN (state124, todo127) _ _ _ hfx (x117.trans x129) w129 ⟨_, _, _, _, rfl⟩
              · rintro rr σ' B130 H130 x130 w130 ⟨o_5k131, o_6k131, o_13k131, o_14k131, rfl⟩ hm
                try dsimp only
                replace hm := finK_nx hm
                obtain ⟨state109, todo110⟩ := rr
                have hq_ := Option.some.inj hm
                subst hq_
                exact hN (state109, todo110) _ _ _ ((((x81.trans x84).trans x99).trans x104).trans x130) w130 ⟨_, _, _, _, _, _, rfl⟩ rfl
            · have hm := it hb hA132
              obtain ⟨⟨r93, state95⟩, e94, hm⟩ := ob hm
              try dsimp only at hm
              refine s_asg w90 (ev_add ev_int ((ev_call1 (g := (state89, ((r69.1.length : Int) - (1 : Int)))) 2 rfl (ea_cons (ev_var (S := SA p0) rfl rfl) (ea_cons (ev_sub (ev_len (ev_var (S := (rLst rInt).s K r69.1) rfl (Sv.mono _ x90 (Sv.mono _ x84 (Sv.mono _ x81 (Sv.mono _ x80 h77))))) src_p) ev_int) ea_nil)) rfl (al_p (fun a z => List.mem_of_mem_eraseIdx z) (al_p (fun a z => List.mem_of_mem_eraseIdx z) al_nil)) e94 (csi (imm_flat _))).le g_s)) (fun w_v97 B96 H96 x96 w96 h98 => ?_)
              have hq_ := Option.some.inj hm
              subst hq_
              exact hN (state95, ((2 : Int) + r93)) _ _ _ (x90.trans x96) w96 ⟨_, _, w_v97, _, _, _, rfl, h98⟩ rfl
            · have hm := ie hb hA132
              have hq_ := Option.some.inj hm
              subst hq_
              exact hN (state89, (2 : Int)) _ _ _ x90 w90 ⟨_, _, w_v85, _, _, _, rfl, (Sv.mono _ x90 h86)⟩ rfl
          · have hm := ie hb hA135
            have hq_ := Option.some.inj hm
            subst hq_
            exact hN (state63, todo70) _ _ _ x81 w81 ⟨_, _, _, _, _, _, rfl⟩ rfl
      · rintro rr σ' B136 H136 x136 w136 ⟨o_5k137, o_6k137, o_8k137, o_9k137, o_10k137, o_11k137, o_12k137, o_13k137, o_14k137, rfl⟩ hm
        try dsimp only
        replace hm := finK_nx hm
        obtain ⟨state63, todo64, nodes65⟩ := rr
        obtain ⟨r138, e139, hm⟩ := ob hm
        refine s_ret w136 (ev_call0 (g := nodes65) (ea_cons (ev_var (S := SA q56) rfl rfl) ea_nil) (al_o (R := (rT2 (rTpl rInt) rInt)) (xs := nodes65) 0 rfl rfl (List.mem_of_getElem? (i := 0) rfl) (fun _ z => z) al_nil) e139) (fun vv B140 H140 x140 w140 hv => ?_)
        cases hm
        obtain ⟨oz, gz1, _, gz3, gz4⟩ := w140.cell.get (i := 2) rfl rfl
        exact k _ _ _ oz w140.st w140.ex gz1 gz3 gz4 (r_f w136 hv)
def m__law_any_nest : (List Int) × Int → Option ((List ((List Int) × Int)) × (List Int)) := fun (state, size) =>
  (m__law_pick (state, (2 : Int))).bind fun (r1, state3) =>
  cond (decide (r1 = (0 : Int))) ((m__law_grown (state3, size, (3 : Int))).bind fun (r5, state7) =>
  some (r5, state7)) ((m__law_wound (state3, size, (5 : Int))).bind fun (r9, state11) =>
  some (r9, state11))
def p__law_any_nest (K : Fg) : Sp := Pr1 K (fun (g : (List Int) × Int) p => [SA p, rInt.s K g.2]) (fun g => CL rInt K g.1) m__law_any_nest (fun e => CL rInt K e) (rLst (rT2 (rTpl rInt) rInt))
abbrev N__law_any_nest : List Str := ["state", "size"]
theorem sc__law_any_nest : FnScope N__law_any_nest ["state", "size"] (defScope s__law_any_nest) := ⟨rfl, rfl, rfl, by decide +kernel, rfl, by decide +kernel, by decide +kernel⟩
theorem ok__law_any_nest {P : Program} {w : World} {K : Fg} {mg : Str → Option Value} {base : Heap} (T : Tx P K mg) {fd : FuncData} (F : FnP K "_law_any_nest" s__law_any_nest (He.ga K "_law_any_nest") fd) : FnOk P w K mg base (L2.CX P w) 5 (He.ga K "_law_any_nest") fd ["state", "size"] (p__law_any_nest K) := by
  obtain ⟨fd__law_grown, F__law_grown⟩ := T.f__law_grown
  have b__law_grown : Binds K fd__law_grown ["state", "size", "many"] [] := F__law_grown.bindsN fun _ _ _ _ _ _ us hl => match us, hl with | [_, _, _], _ => rfl
  have G__law_grown : FnOk P w K mg base (L2.CX P w) 4 (He.ga K "_law_grown") fd__law_grown ["state", "size", "many"] (p__law_grown K) := ok__law_grown T F__law_grown
  obtain ⟨fd__law_pick, F__law_pick⟩ := T.f__law_pick
  have b__law_pick : Binds K fd__law_pick ["state", "many"] [] := F__law_pick.bindsN fun _ _ _ _ _ _ us hl => match us, hl with | [_, _], _ => rfl
  have G__law_pick : FnOk P w K mg base (L2.CX P w) 1 (He.ga K "_law_pick") fd__law_pick ["state", "many"] (p__law_pick K) := ok__law_pick T F__law_pick
  obtain ⟨fd__law_wound, F__law_wound⟩ := T.f__law_wound
  have b__law_wound : Binds K fd__law_wound ["state", "size", "far"] [] := F__law_wound.bindsN fun _ _ _ _ _ _ us hl => match us, hl with | [_, _, _], _ => rfl
  have G__law_wound : FnOk P w K mg base (L2.CX P w) 3 (He.ga K "_law_wound") fd__law_wound ["state", "size", "far"] (p__law_wound K) := ok__law_wound T F__law_wound
  have sc := sc__law_any_nest
  refine F.ok sc (fun vs H Q E h => ?_) (fun cdv A outer s H vs Q E hr h => ?_)
  · obtain ⟨g, p, z, B, o, ss, _⟩ := h
    exact (Paired.length ss).trans rfl
  · obtain ⟨⟨state, size⟩, p0, z, B, o, ss, ex, h1, h2, h3, h4, hm, k⟩ := h
    obtain ⟨v0, v1, rfl, z0, z1⟩ := pn2 ss
    cases (show _ = V.ref p0 from z0)
    refine ⟨_, (pss_cons (ps_if (pt_cmpR op_eq (pe_call G__law_pick (hr.mono (by decide)) (by rfl) T.m__law_pick F__law_pick.kp b__law_pick .nil passL (pa_cons (pv 0) (pa_cons pe_int pa_nil))) pe_int (nomark _)) (pss_one (ps_ret (pe_call G__law_grown (hr.mono (by decide)) (by rfl) T.m__law_grown F__law_grown.kp b__law_grown .nil passL (pa_cons (pv 0) (pa_cons (pv 1) (pa_cons pe_int pa_nil)))))) pss_nil) (pss_one (ps_ret (pe_call G__law_wound (hr.mono (by decide)) (by rfl) T.m__law_wound F__law_wound.kp b__law_wound .nil passL (pa_cons (pv 0) (pa_cons (pv 1) (pa_cons pe_int pa_nil))))))), ?_⟩
    have w := Wd.start1 (K := K) ex h1 h2 h3 h4
    unfold m__law_any_nest at hm
    obtain ⟨⟨r1, state3⟩, e2, hm⟩ := ob hm
    try dsimp only at hm
    try dsimp only
    refine s_if w (et_test (ev_eqI ((ev_call1 (g := (state, (2 : Int))) 0 rfl (ea_cons (ev_var (S := SA p0) rfl rfl) (ea_cons ev_int ea_nil)) rfl (al_p (fun a z => List.mem_of_mem_eraseIdx z) (al_p (fun a z => List.mem_of_mem_eraseIdx z) al_nil)) e2 (csi (imm_flat _))).le g_s) ev_int)) (fun hb B4 H4 x4 w4 => ?_) (fun hb B4 H4 x4 w4 => ?_)
    · have hm := it hb hm
      obtain ⟨⟨r5, state7⟩, e6, hm⟩ := ob hm
      try dsimp only at hm
      refine s_ret w4 (ev_call1 (g := (state3, size, (3 : Int))) 0 rfl (ea_cons (ev_var (S := SA p0) rfl rfl) (ea_cons (ev_var (S := rInt.s K size) rfl (Sv.mono _ x4 z1)) (ea_cons ev_int ea_nil))) rfl (al_p (fun a z => List.mem_of_mem_eraseIdx z) (al_p (fun a z => List.mem_of_mem_eraseIdx z) (al_p (fun a z => List.mem_of_mem_eraseIdx z) al_nil))) e6 (csi (imm_flat _))) (fun vv B8 H8 x8 w8 hv => ?_)
      cases hm
      obtain ⟨oz, gz1, _, gz3, gz4⟩ := w8.cell.get (i := 0) rfl rfl
      exact k _ _ _ oz w8.st w8.ex gz1 gz3 gz4 (r_f w4 hv)
    · have hm := ie hb hm
      obtain ⟨⟨r9, state11⟩, e10, hm⟩ := ob hm
      try dsimp only at hm
      refine s_ret w4 (ev_call1 (g := (state3, size, (5 : Int))) 0 rfl (ea_cons (ev_var (S := SA p0) rfl rfl) (ea_cons (ev_var (S := rInt.s K size) rfl (Sv.mono _ x4 z1)) (ea_cons ev_int ea_nil))) rfl (al_p (fun a z => List.mem_of_mem_eraseIdx z) (al_p (fun a z => List.mem_of_mem_eraseIdx z) (al_p (fun a z => List.mem_of_mem_eraseIdx z) al_nil))) e10 (csi (imm_flat _))) (fun vv B12 H12 x12 w12 hv => ?_)
      cases hm
      obtain ⟨oz, gz1, _, gz3, gz4⟩ := w12.cell.get (i := 0) rfl rfl
      exact k _ _ _ oz w12.st w12.ex gz1 gz3 gz4 (r_f w4 hv)
def m__law_card : (List ((List Int) × Int)) × Int → Option (List Int) := fun (nodes, place) =>
  (rngO (0 : Int) (nodes.length : Int)).bind fun xs4 =>
  finK (fun (named6 : (List Int)) => (some (cut named6 (some (1 : Int)) none))) (fun (_ : Unit) => none) (forL (fun (turn8 : Int) (named6 : (List Int)) => (finK (fun (gate12 : Int) => (cond (decide (gate12 < (0 : Int))) (some (.bk named6)) ((appO named6 gate12).bind fun named32 =>
  some (.nx named32)))) (fun (_ : Unit) => none) (forL (fun (node14 : (List Int) × Int) (gate12 : Int) => ((atI named6 (-(1 : Int))).bind fun t15 =>
  (cond (decide (t15 ∈ node14.1)) ((lcO (fun (other : Int) (rr : Unit) => match rr with | () => some (true, ())) (fun (other : Int) (rr : Unit) => match rr with | () => some ((decide (other ∈ named6)), ())) node14.1 ()).bind fun (ys17, _) => some (ys17.all id)) (some false)).bind fun b19 =>
  (cond b19 (some node14.2) (some gate12)).bind fun gate22 =>
  some (.nx gate22) : Option (Ctl Int Unit))) nodes (-(1 : Int))) : Option (Ctl (List Int) Unit))) xs4 [place])
def p__law_card (K : Fg) : Sp := Pr0 K (fun (g : (List ((List Int) × Int)) × Int) => [(rLst (rT2 (rTpl rInt) rInt)).s K g.1, rInt.s K g.2]) m__law_card (rLst rInt)
abbrev N__law_card : List Str := ["nodes", "place", "named", "turn", "gate", "node", "other"]
theorem sc__law_card : FnScope N__law_card ["nodes", "place"] (defScope s__law_card) := ⟨rfl, rfl, rfl, by decide +kernel, rfl, by decide +kernel, by decide +kernel⟩
theorem ok__law_card {P : Program} {w : World} {K : Fg} {mg : Str → Option Value} {base : Heap} (T : Tx P K mg) {fd : FuncData} (F : FnP K "_law_card" s__law_card (He.ga K "_law_card") fd) : FnOk P w K mg base (L2.CX P w) 1 (He.ga K "_law_card") fd ["nodes", "place"] (p__law_card K) := by
  have sc := sc__law_card
  refine F.ok sc (fun vs H Q E h => ?_) (fun cdv A outer s H vs Q E hr h => ?_)
  · obtain ⟨g, z, B, ss, _⟩ := h
    exact (Paired.length ss).trans rfl
  · obtain ⟨⟨nodes, place⟩, z, B, ss, ex, hm, k⟩ := h
    obtain ⟨v0, v1, rfl, z0, z1⟩ := pn2 ss
    refine ⟨_, (pss_cons (ps_set (i := 2) sc.nd rfl (Or.inr rfl) (pe_lst (pa_cons (pv 1) pa_nil))) (pss_cons (ps_for (passes_of rfl) rfl (pi_range1 (by rfl) T.b_range (pa_cons (pe_callB (clen (K := K) rfl) (by rfl) T.b_len (by decide +kernel) (pa_cons (pv 0) pa_nil)) pa_nil)) (pg_name (i := 3) sc.nd rfl (Or.inl rfl)) (pss_cons (ps_set (i := 4) sc.nd rfl (Or.inl rfl) (pe_un un_neg pe_int)) (pss_cons (ps_for (passes_of rfl) rfl (pi_list (pv 0)) (pg_name (i := 5) sc.nd rfl (Or.inl rfl)) (pss_one (ps_if (PW.pt (pw_and (pt_cmpR (opin (K := K) rfl) (pe_ix (ixl (K := K) rfl) (pv 2) (pe_un un_neg pe_int) (fun _ _ => rfl)) (pe_ix (ixt (K := K) rfl) (pv 5) pe_int (fun _ _ => rfl)) (by rfl)) (pw_and1 (pt_val (pe_callB (call_ (K := K) rfl rfl) (by rfl) T.b_all (by decide +kernel) (pa_cons (pe_lc (own := [("other", 6)]) (g := (gName 6)) (by rfl) sc.nd (pi_tup (pe_ix (ixt (K := K) rfl) (pv 5) pe_int (fun _ _ => rfl))) (blkOk_by (own := [("other", 6)]) (N := N__law_card) (sc := defScope s__law_card) (by decide +kernel)) (fun _ _ _ _ _ => pg_name (i := 6) sc.nd rfl (Or.inl rfl)) (fun _ _ _ _ _ => pts_nil) (fun _ _ _ _ _ => (pe_cmpR (opin (K := K) rfl) (pv 6) (pv 2) (by rfl)))) pa_nil)))))) (pss_one (ps_set (i := 4) sc.nd rfl (Or.inl rfl) (pe_ix (ixt (K := K) rfl) (pv 5) pe_int (fun _ _ => rfl)))) pss_nil))) (pss_cons (ps_if (pt_cmpR op_lt (pv 4) pe_int (nomark _)) (pss_one ps_break) pss_nil) (pss_one (ps_expr (pe_bm PySem.F.plainAttrs_list PySem.F.slot_list_append PySem.F.type_list_append mt_append (pv 2) (pa_cons (pv 4) pa_nil)))))))) (pss_one (ps_ret (pe_slice (sll (K := K) rfl) (pv 2) (po_some pe_int) po_none))))), ?_⟩
    have w := Wd.start (K := K) ex
    unfold m__law_card at hm
    refine s_own w (ev_lst (R := rInt) (xs := [place]) (ea_cons (ev_var (S := rInt.s K place) rfl z1) ea_nil) (by show 1 ≤ 1000; decide)) (imm_flat _) trivial (fun q2 B1 H1 x1 n3 w1 => ?_)
    obtain ⟨xs4, e5, hm⟩ := ob hm
    refine s_for (R := rInt) (oo := (fun (rr : (List Int)) => [CL rInt K rr])) (ρ0 := [place]) (fun (turn8 : Int) (named6 : (List Int)) => (finK (fun (gate12 : Int) => (cond (decide (gate12 < (0 : Int))) (some (.bk named6)) ((appO named6 gate12).bind fun named32 =>
some (.nx named32)))) (fun (_ : Unit) => none) (forL (fun (node14 : (List Int) × Int) (gate12 : Int) => ((atI named6 (-(1 : Int))).bind fun t15 =>
(cond (decide (t15 ∈ node14.1)) ((lcO (fun (other : Int) (rr : Unit) => match rr with | () => some (true, ())) (fun (other : Int) (rr : Unit) => match rr with | () => some ((decide (other ∈ named6)), ())) node14.1 ()).bind fun (ys17, _) => some (ys17.all id)) (some false)).bind fun b19 =>
(cond b19 (some node14.2) (some gate12)).bind fun gate22 =>
some (.nx gate22) : Option (Ctl Int Unit))) nodes (-(1 : Int))) : Option (Ctl (List Int) Unit))) (fun (rr : (List Int)) σ' B' => ∃ o_3 : Option V, ∃ o_4 : Option V, ∃ o_5 : Option V, ∃ o_6 : Option V, σ' = [some v0, some v1, some (.ref q2), o_3, o_4, o_5, o_6]) (fun zz => finK _ _ zz = some _) w1 (ei_r1 (ev_len (ev_var (S := (rLst (rT2 (rTpl rInt) rInt)).s K nodes) rfl (Sv.mono _ x1 z0)) src_p) e5) (fun rr σ' B1 B2 e ⟨o_3, o_4, o_5, o_6, hσ⟩ => ⟨o_3, o_4, o_5, o_6, hσ⟩) (fun B2 e => ⟨_, _, _, _, rfl⟩) hm ?_ ?_
    · rintro turn8 rst named6 vx7 σ' Bt7 Ht7 xt7 wt7 ⟨o_3t7, o_4t7, o_5t7, o_6t7, rfl⟩ hx7 hf N hN dn
      dsimp only [gName]
      obtain ⟨ctl, hfx, hbk7, hrt7⟩ := forL_step hf
      have hm := hfx
      refine s_asg wt7 (ev_neg ev_int) (fun w_v10 B9 H9 x9 w9 h11 => ?_)
      refine s_for (R := (rT2 (rTpl rInt) rInt)) (oo := (fun (rr : Int) => [CL rInt K named6])) (ρ0 := (-(1 : Int))) (fun (node14 : (List Int) × Int) (gate12 : Int) => ((atI named6 (-(1 : Int))).bind fun t15 =>
(cond (decide (t15 ∈ node14.1)) ((lcO (fun (other : Int) (rr : Unit) => match rr with | () => some (true, ())) (fun (other : Int) (rr : Unit) => match rr with | () => some ((decide (other ∈ named6)), ())) node14.1 ()).bind fun (ys17, _) => some (ys17.all id)) (some false)).bind fun b19 =>
(cond b19 (some node14.2) (some gate12)).bind fun gate22 =>
some (.nx gate22) : Option (Ctl Int Unit))) (fun (rr : Int) σ' B' => ∃ v_4 : V, ∃ o_5 : Option V, ∃ o_6 : Option V, σ' = [some v0, some v1, some (.ref q2), some vx7, some v_4, o_5, o_6] ∧ (rInt.s K rr).p v_4 B') (fun zz => finK _ _ zz = some _) w9 (ei_list (ev_var (S := (rLst (rT2 (rTpl rInt) rInt)).s K nodes) rfl (Sv.mono _ x9 (Sv.mono _ xt7 (Sv.mono _ x1 z0))))) (fun rr σ' B1 B2 e ⟨v_4, o_5, o_6, hσ, hj0⟩ => ⟨v_4, o_5, o_6, hσ, Sv.mono _ e hj0⟩) (fun B2 e => ⟨w_v10, _, _, rfl, (Sv.mono _ e h11)⟩) hm ?_ ?_
      · rintro node14 rst gate12 vx13 σ' Bt13 Ht13 xt13 wt13 ⟨v_4t13, o_5t13, o_6t13, rfl, hj0t13⟩ hx13 hf N hN dn
        dsimp only [gName]
        obtain ⟨ctl, hfx, hbk13, hrt13⟩ := forL_step hf
        have hm := hfx
        obtain ⟨t15, e16, hm⟩ := ob hm
        obtain ⟨b19, e20, hm⟩ := ob hm
        obtain ⟨rj, hA28, hm⟩ := ob hm
        refine s_ifJ (ks2 := [q2]) (oo := (fun (rr : Int) => [CL rInt K named6])) (fun (rr : Int) σ' B' => ∃ v_4 : V, ∃ o_6 : Option V, σ' = [some v0, some v1, some (.ref q2), some vx7, some v_4, some vx13, o_6] ∧ (rInt.s K rr).p v_4 B') (fun rr => rr = rj) wt13 (et_andO (b := b19) (et_test (ev_inT (ev_ix (ev_var (S := SA q2) rfl rfl) (ev_neg ev_int) (src_o (R := rInt) (xs := named6) 0 rfl rfl) e16) (ev_T2a (ev_var (S := (rT2 (rTpl rInt) rInt).s K node14) rfl hx13)))) (fun hc => by have e20 := it hc e20; obtain ⟨⟨ys17, _⟩, e18, e20⟩ := ob e20; try dsimp only at e20; have hq_ := Option.some.inj e20; subst hq_; exact (et_B (ev_all (ev_lc (R := rInt) (R' := rBool) (oo := (fun (rr : Unit) => [CL rInt K named6])) (fun (other : Int) (rr : Unit) => match rr with | () => some (true, ())) (fun (other : Int) (rr : Unit) => match rr with | () => some ((decide (other ∈ named6)), ())) (lcT rInt K _ 6 [6]) (ei_tup (ev_T2a (ev_var (S := (rT2 (rTpl rInt) rInt).s K node14) rfl hx13))) e18 (lcT_mono _ _ _ _ _) (lcT_name rfl 6 [6] (by intro x; rfl)) (fun other rr bb r1 σ2 B' pD acc ht eB ⟨vx, hσ, hx⟩ => by cases ht; exact et_yes) (fun other rr yy r1 σ2 B' pD acc he eB ⟨vx, hσ, hx⟩ => by subst hσ; cases he; exact (ev_in (ev_var (S := rInt.s K other) rfl hx) (ev_var (S := SA q2) rfl rfl) (src_o (R := rInt) (xs := named6) 1 rfl rfl)))) src_n))) (fun hc => by have e20 := ie hc e20; cases e20; exact ⟨rfl, rfl⟩)) ?_ (fun hb B21 H21 x21 w21 N hN => ?_) (fun hb B21 H21 x21 w21 N hN => ?_)
        · rintro gate22 σ' B26 H26 x26 w26 ⟨v_4k27, o_6k27, rfl, hj0k27⟩ hq
          subst hq
          try dsimp only
          have hq_ := Option.some.inj hm
          subst hq_
          exact hN gate22 _ _ _ hfx x26 w26 ⟨v_4k27, _, _, rfl, hj0k27⟩
        · have hm := it hb hA28
          refine s_asg w21 (ev_T2b (ev_var (S := (rT2 (rTpl rInt) rInt).s K node14) rfl (Sv.mono _ x21 hx13))) (fun w_v24 B23 H23 x23 w23 h25 => ?_)
          have hq_ := Option.some.inj hm
          subst hq_
          exact hN node14.2 _ _ _ (x21.trans x23) w23 ⟨w_v24, _, rfl, h25⟩ rfl
        · have hm := ie hb hA28
          have hq_ := Option.some.inj hm
          subst hq_
          exact hN gate12 _ _ _ x21 w21 ⟨v_4t13, _, rfl, (Sv.mono _ x21 hj0t13)⟩ rfl
      · rintro gate12 σ' B29 H29 x29 w29 ⟨v_4k30, o_5k30, o_6k30, rfl, hj0k30⟩ hm
        try dsimp only
        replace hm := finK_nx hm
        try dsimp only
        refine s_if w29 (et_test (ev_lt (ev_var (S := rInt.s K gate12) rfl hj0k30) ev_int)) (fun hb B31 H31 x31 w31 => ?_) (fun hb B31 H31 x31 w31 => ?_)
        · have hm := it hb hm
          have hq_ := Option.some.inj hm
          subst hq_
          exact dn _ _ _ _ (((xt7.trans x9).trans x29).trans x31) w31 ⟨_, _, _, _, rfl⟩ (hbk7 _ rfl)
        · have hm := ie hb hm
          obtain ⟨named32, e33, hm⟩ := ob hm
          refine s_drop w31 (ev_app 0 rfl (ev_var (S := SA q2) rfl rfl) rfl (ev_var (S := rInt.s K gate12) rfl (Sv.mono _ x31 hj0k30)) rfl e33) (fun B34 H34 x34 w34 => ?_)
          have hq_ := Option.some.inj hm
          subst hq_
          exact hN named32 _ _ _ hfx (((x9.trans x29).trans x31).trans x34) w34 ⟨_, _, _, _, rfl⟩
    · rintro named6 σ' B35 H35 x35 w35 ⟨o_3k36, o_4k36, o_5k36, o_6k36, rfl⟩ hm
      try dsimp only
      replace hm := finK_nx hm
      refine s_ret w35 (ev_cut (ev_var (S := SA q2) rfl rfl) (eo_some ev_int) eo_none (src_o (R := rInt) (xs := named6) 0 rfl rfl)) (fun vv B37 H37 x37 w37 hv => ?_)
      cases hm
      exact k _ _ _ w37.st w37.ex (r_n w35 (imm_flat _) hv)
def m__law_cards : (List ((List Int) × Int)) × Int → Option (List (List Int)) := fun (nodes, size) =>
  (rngO (0 : Int) size).bind fun xs1 =>
  (lcO (fun (place : Int) (rr : Unit) => match rr with | () => some (true, ())) (fun (place : Int) (rr : Unit) => match rr with | () => (m__law_card (nodes, place)).bind fun r3 => some (r3, ())) xs1 ()).bind fun (ys5, _) =>
  some ys5
def p__law_cards (K : Fg) : Sp := Pr0 K (fun (g : (List ((List Int) × Int)) × Int) => [(rLst (rT2 (rTpl rInt) rInt)).s K g.1, rInt.s K g.2]) m__law_cards rLL
abbrev N__law_cards : List Str := ["nodes", "size", "place"]
theorem sc__law_cards : FnScope N__law_cards ["nodes", "size"] (defScope s__law_cards) := ⟨rfl, rfl, rfl, by decide +kernel, rfl, by decide +kernel, by decide +kernel⟩
theorem ok__law_cards {P : Program} {w : World} {K : Fg} {mg : Str → Option Value} {base : Heap} (T : Tx P K mg) {fd : FuncData} (F : FnP K "_law_cards" s__law_cards (He.ga K "_law_cards") fd) : FnOk P w K mg base (L2.CX P w) 2 (He.ga K "_law_cards") fd ["nodes", "size"] (p__law_cards K) := by
  obtain ⟨fd__law_card, F__law_card⟩ := T.f__law_card
  have b__law_card : Binds K fd__law_card ["nodes", "place"] [] := F__law_card.bindsN fun _ _ _ _ _ _ us hl => match us, hl with | [_, _], _ => rfl
  have G__law_card : FnOk P w K mg base (L2.CX P w) 1 (He.ga K "_law_card") fd__law_card ["nodes", "place"] (p__law_card K) := ok__law_card T F__law_card
  have sc := sc__law_cards
  refine F.ok sc (fun vs H Q E h => ?_) (fun cdv A outer s H vs Q E hr h => ?_)
  · obtain ⟨g, z, B, ss, _⟩ := h
    exact (Paired.length ss).trans rfl
  · obtain ⟨⟨nodes, size⟩, z, B, ss, ex, hm, k⟩ := h
    obtain ⟨v0, v1, rfl, z0, z1⟩ := pn2 ss
    refine ⟨_, (pss_one (ps_ret (pe_lc (own := [("place", 2)]) (g := (gName 2)) (by rfl) sc.nd (pi_range1 (by rfl) T.b_range (pa_cons (pv 1) pa_nil)) (blkOk_by (own := [("place", 2)]) (N := N__law_cards) (sc := defScope s__law_cards) (by decide +kernel)) (fun _ _ _ _ _ => pg_name (i := 2) sc.nd rfl (Or.inl rfl)) (fun _ _ _ _ _ => pts_nil) (fun _ _ _ _ _ => (pe_call G__law_card (hr.mono (by decide)) (by rfl) T.m__law_card F__law_card.kp b__law_card .nil passL (pa_cons (pv 0) (pa_cons (pv 2) pa_nil))))))), ?_⟩
    have w := Wd.start (K := K) ex
    unfold m__law_cards at hm
    obtain ⟨xs1, e2, hm⟩ := ob hm
    obtain ⟨⟨ys5, _⟩, e6, hm⟩ := ob hm
    try dsimp only at hm
    refine s_ret w (ev_lcF (R := rInt) (oo := (fun (rr : Unit) => [])) (fun (place : Int) (rr : Unit) => match rr with | () => some (true, ())) (fun (place : Int) (rr : Unit) => match rr with | () => (m__law_card (nodes, place)).bind fun r3 => some (r3, ())) (lcT rInt K _ 2 [2]) (ei_r1 (ev_var (S := rInt.s K size) rfl z1) e2) e6 (lcT_mono _ _ _ _ _) (lcT_name rfl 2 [2] (by intro x; rfl)) (fun place rr bb r1 σ2 B' pD acc ht eB ⟨vx, hσ, hx⟩ => by cases ht; exact et_yes) (fun Hh place rr yy r1 σ2 B' pD acc he eB ⟨vx, hσ, hx⟩ => by subst hσ; obtain ⟨r3, e4, he⟩ := ob he; cases he; exact ((ev_call0 (g := (nodes, place)) (ea_cons (ev_var (S := (rLst (rT2 (rTpl rInt) rInt)).s K nodes) rfl (Sv.mono _ eB z0)) (ea_cons (ev_var (S := rInt.s K place) rfl hx) ea_nil)) (al_p (fun _ z => z) (al_p (fun _ z => z) al_nil)) e4).le g_sn))) (fun vv B7 H7 x7 w7 hv => ?_)
    cases hm
    exact k _ _ _ w7.st w7.ex (r_f w hv)
def m__law_wild : (List Int) × Int → Option ((List (List Int)) × (List Int)) := fun (state, size) =>
  (rngO (0 : Int) size).bind fun xs4 =>
  finK (fun (rr : (List Int) × (List (List Int))) => match rr with | (state6, book7) => (some (book7, state6))) (fun (_ : Unit) => none) (forL (fun (place9 : Int) (rr : (List Int) × (List (List Int))) => (match rr with | (state6, book7) => ((rngO (0 : Int) size).bind fun xs10 =>
  (lcO (fun (other : Int) (rr : Unit) => match rr with | () => some ((!decide (other = place9)), ())) (fun (other : Int) (rr : Unit) => match rr with | () => some (other, ())) xs10 ()).bind fun (ys12, _) =>
  (m__law_shuffled (state6, ys12)).bind fun (r14, state16) =>
  (m__law_pick (state16, size)).bind fun (r20, state22) =>
  (appO book7 (cut r14 none (some r20))).bind fun book23 =>
  some (.nx (state22, book23))) : Option (Ctl ((List Int) × (List (List Int))) Unit))) xs4 (state, ([] : List (List Int))))
def p__law_wild (K : Fg) : Sp := Pr1a K (fun (g : (List Int) × Int) p => [SA p, rInt.s K g.2]) (fun g => CL rInt K g.1) m__law_wild (fun e => CL rInt K e) (rLst (rLst rInt))
abbrev N__law_wild : List Str := ["state", "size", "book", "place", "others", "other"]
theorem sc__law_wild : FnScope N__law_wild ["state", "size"] (defScope s__law_wild) := ⟨rfl, rfl, rfl, by decide +kernel, rfl, by decide +kernel, by decide +kernel⟩
theorem ok__law_wild {P : Program} {w : World} {K : Fg} {mg : Str → Option Value} {base : Heap} (T : Tx P K mg) {fd : FuncData} (F : FnP K "_law_wild" s__law_wild (He.ga K "_law_wild") fd) : FnOk P w K mg base (L2.CX P w) 3 (He.ga K "_law_wild") fd ["state", "size"] (p__law_wild K) := by
  obtain ⟨fd__law_pick, F__law_pick⟩ := T.f__law_pick
  have b__law_pick : Binds K fd__law_pick ["state", "many"] [] := F__law_pick.bindsN fun _ _ _ _ _ _ us hl => match us, hl with | [_, _], _ => rfl
  have G__law_pick : FnOk P w K mg base (L2.CX P w) 1 (He.ga K "_law_pick") fd__law_pick ["state", "many"] (p__law_pick K) := ok__law_pick T F__law_pick
  obtain ⟨fd__law_shuffled, F__law_shuffled⟩ := T.f__law_shuffled
  have b__law_shuffled : Binds K fd__law_shuffled ["state", "row"] [] := F__law_shuffled.bindsN fun _ _ _ _ _ _ us hl => match us, hl with | [_, _], _ => rfl
  have G__law_shuffled : FnOk P w K mg base (L2.CX P w) 2 (He.ga K "_law_shuffled") fd__law_shuffled ["state", "row"] (p__law_shuffled K) := ok__law_shuffled T F__law_shuffled
  have sc := sc__law_wild
  refine F.ok sc (fun vs H Q E h => ?_) (fun cdv A outer s H vs Q E hr h => ?_)
  · obtain ⟨g, p, z, B, o, ss, _⟩ := h
    exact (Paired.length ss).trans rfl
  · obtain ⟨⟨state, size⟩, p0, z, B, o, ss, ex, h1, h2, h3, h4, hm, k⟩ := h
    obtain ⟨v0, v1, rfl, z0, z1⟩ := pn2 ss
    cases (show _ = V.ref p0 from z0)
    refine ⟨_, (pss_cons (ps_set (i := 2) sc.nd rfl (Or.inl rfl) (pe_lst pa_nil)) (pss_cons (ps_for (passes_of rfl) rfl (pi_range1 (by rfl) T.b_range (pa_cons (pv 1) pa_nil)) (pg_name (i := 3) sc.nd rfl (Or.inr rfl)) (pss_cons (ps_set (i := 4) sc.nd rfl (Or.inl rfl) (pe_call G__law_shuffled (hr.mono (by decide)) (by rfl) T.m__law_shuffled F__law_shuffled.kp b__law_shuffled .nil passL (pa_cons (pv 0) (pa_cons (pe_lc (own := [("other", 5)]) (g := (gName 5)) (by rfl) sc.nd (pi_range1 (by rfl) T.b_range (pa_cons (pv 1) pa_nil)) (blkOk_by (own := [("other", 5)]) (N := N__law_wild) (sc := defScope s__law_wild) (by decide +kernel)) (fun _ _ _ _ _ => pg_name (i := 5) sc.nd rfl (Or.inl rfl)) (fun _ _ _ _ _ => pts_one (pt_cmpR op_ne (pv 5) (pv 3) (nomark _))) (fun _ _ _ _ _ => (pv 5))) pa_nil)))) (pss_one (ps_expr (pe_bm PySem.F.plainAttrs_list PySem.F.slot_list_append PySem.F.type_list_append mt_append (pv 2) (pa_cons (pe_slice (sll (K := K) rfl) (pv 4) po_none (po_some (pe_call G__law_pick (hr.mono (by decide)) (by rfl) T.m__law_pick F__law_pick.kp b__law_pick .nil passL (pa_cons (pv 0) (pa_cons (pv 1) pa_nil))))) pa_nil)))))) (pss_one (ps_ret (pv 2))))), ?_⟩
    have w := Wd.start1 (K := K) ex h1 h2 h3 h4
    unfold m__law_wild at hm
    refine s_ownNil (rLst rInt) w (fun q2 H1 n3 w1 => ?_)
    try dsimp only
    obtain ⟨xs4, e5, hm⟩ := ob hm
    refine s_for (R := rInt) (oo := (fun (rr : (List Int) × (List (List Int))) => [CL (rLst rInt) K rr.2, CL rInt K rr.1])) (ρ0 := (state, ([] : List (List Int)))) (fun (place9 : Int) (rr : (List Int) × (List (List Int))) => (match rr with | (state6, book7) => ((rngO (0 : Int) size).bind fun xs10 =>
(lcO (fun (other : Int) (rr : Unit) => match rr with | () => some ((!decide (other = place9)), ())) (fun (other : Int) (rr : Unit) => match rr with | () => some (other, ())) xs10 ()).bind fun (ys12, _) =>
(m__law_shuffled (state6, ys12)).bind fun (r14, state16) =>
(m__law_pick (state16, size)).bind fun (r20, state22) =>
(appO book7 (cut r14 none (some r20))).bind fun book23 =>
some (.nx (state22, book23))) : Option (Ctl ((List Int) × (List (List Int))) Unit))) (fun (rr : (List Int) × (List (List Int))) σ' B' => ∃ o_3 : Option V, ∃ o_4 : Option V, ∃ o_5 : Option V, σ' = [some (.ref p0), some v1, some (.ref q2), o_3, o_4, o_5]) (fun zz => finK _ _ zz = some _) w1 (ei_r1 (ev_var (S := rInt.s K size) rfl z1) e5) (fun rr σ' B1 B2 e ⟨o_3, o_4, o_5, hσ⟩ => ⟨o_3, o_4, o_5, hσ⟩) (fun B2 e => ⟨_, _, _, rfl⟩) hm ?_ ?_
    · rintro place9 rst rr vx8 σ' Bt8 Ht8 xt8 wt8 ⟨o_3t8, o_4t8, o_5t8, rfl⟩ hx8 hf N hN dn
      dsimp only [gName]
      obtain ⟨state6, book7⟩ := rr
      obtain ⟨ctl, hfx, hbk8, hrt8⟩ := forL_step hf
      have hm := hfx
      obtain ⟨xs10, e11, hm⟩ := ob hm
      obtain ⟨⟨ys12, _⟩, e13, hm⟩ := ob hm
      try dsimp only at hm
      obtain ⟨⟨r14, state16⟩, e15, hm⟩ := ob hm
      try dsimp only at hm
      refine s_asg wt8 ((ev_call1 (g := (state6, ys12)) 1 rfl (ea_cons (ev_var (S := SA p0) rfl rfl) (ea_cons (ev_lc (R := rInt) (R' := rInt) (oo := (fun (rr : Unit) => [CL (rLst rInt) K book7, CL rInt K state6])) (fun (other : Int) (rr : Unit) => match rr with | () => some ((!decide (other = place9)), ())) (fun (other : Int) (rr : Unit) => match rr with | () => some (other, ())) (lcT rInt K _ 5 [5]) (ei_r1 (ev_var (S := rInt.s K size) rfl (Sv.mono _ xt8 z1)) e11) e13 (lcT_mono _ _ _ _ _) (lcT_name rfl 5 [5] (by intro x; rfl)) (fun other rr bb r1 σ2 B' pD acc ht eB ⟨vx, hσ, hx⟩ => by subst hσ; cases ht; exact (et_test (ev_neI (ev_var (S := rInt.s K other) rfl hx) (ev_var (S := rInt.s K place9) rfl (Sv.mono _ eB hx8))))) (fun other rr yy r1 σ2 B' pD acc he eB ⟨vx, hσ, hx⟩ => by subst hσ; cases he; exact (ev_var (S := rInt.s K other) rfl hx))) ea_nil)) rfl (al_p (fun a z => List.mem_of_mem_eraseIdx z) (al_le sn_s (fun a z => List.mem_of_mem_eraseIdx z) al_nil)) e15 (csi (imm_flat _))).le g_s) (fun w_v18 B17 H17 x17 w17 h19 => ?_)
      obtain ⟨⟨r20, state22⟩, e21, hm⟩ := ob hm
      try dsimp only at hm
      obtain ⟨book23, e24, hm⟩ := ob hm
      refine s_drop w17 (ev_app 0 rfl (ev_var (S := SA q2) rfl rfl) rfl ((ev_cut (ev_var (S := (rLst rInt).s K r14) rfl h19) eo_none (eo_some ((ev_call1 (g := (state16, size)) 1 rfl (ea_cons (ev_var (S := SA p0) rfl rfl) (ea_cons (ev_var (S := rInt.s K size) rfl (Sv.mono _ x17 (Sv.mono _ xt8 z1))) ea_nil)) rfl (al_p (fun a z => List.mem_of_mem_eraseIdx z) (al_p (fun a z => List.mem_of_mem_eraseIdx z) al_nil)) e21 (csi (imm_flat _))).le g_s)) src_p).le sn_s) rfl e24) (fun B25 H25 x25 w25 => ?_)
      have hq_ := Option.some.inj hm
      subst hq_
      exact hN (state22, book23) _ _ _ hfx (x17.trans x25) w25 ⟨_, _, _, rfl⟩
    · rintro rr σ' B26 H26 x26 w26 ⟨o_3k27, o_4k27, o_5k27, rfl⟩ hm
      try dsimp only
      replace hm := finK_nx hm
      obtain ⟨state6, book7⟩ := rr
      refine s_ret w26 (ev_var (S := SA q2) rfl rfl) (fun vv B28 H28 x28 w28 hv => ?_)
      cases (show vv = _ from hv)
      cases hm
      obtain ⟨Bz, xz, w29, rz⟩ := r_oa w28 n3
      obtain ⟨oz, gz1, _, gz3, gz4⟩ := w29.cell.get (i := 0) rfl rfl
      exact k _ _ _ oz w29.st w29.ex gz1 gz3 gz4 rz
def m__law_long : (List Int) × Int → Option ((List (List Int)) × (List Int)) := fun (state, size) =>
  (rngO (0 : Int) size).bind fun xs4 =>
  finK (fun (rr : (List Int) × (List (List Int))) => match rr with | (state6, book7) => (some (book7, state6))) (fun (_ : Unit) => none) (forL (fun (place9 : Int) (rr : (List Int) × (List (List Int))) => (match rr with | (state6, book7) => ((rngO (0 : Int) size).bind fun xs10 =>
  (lcO (fun (other : Int) (rr : Unit) => match rr with | () => some ((!decide (other = place9)), ())) (fun (other : Int) (rr : Unit) => match rr with | () => some (other, ())) xs10 ()).bind fun (ys12, _) =>
  (m__law_shuffled (state6, ys12)).bind fun (r14, state16) =>
  (m__law_pick (state16, (3 : Int))).bind fun (r20, state22) =>
  (appO book7 (cut r14 none (some (if ((size - (1 : Int)) - r20) > (0 : Int) then ((size - (1 : Int)) - r20) else (0 : Int))))).bind fun book23 =>
  some (.nx (state22, book23))) : Option (Ctl ((List Int) × (List (List Int))) Unit))) xs4 (state, ([] : List (List Int))))
def p__law_long (K : Fg) : Sp := Pr1a K (fun (g : (List Int) × Int) p => [SA p, rInt.s K g.2]) (fun g => CL rInt K g.1) m__law_long (fun e => CL rInt K e) (rLst (rLst rInt))
abbrev N__law_long : List Str := ["state", "size", "book", "place", "others", "other"]
theorem sc__law_long : FnScope N__law_long ["state", "size"] (defScope s__law_long) := ⟨rfl, rfl, rfl, by decide +kernel, rfl, by decide +kernel, by decide +kernel⟩
theorem ok__law_long {P : Program} {w : World} {K : Fg} {mg : Str → Option Value} {base : Heap} (T : Tx P K mg) {fd : FuncData} (F : FnP K "_law_long" s__law_long (He.ga K "_law_long") fd) : FnOk P w K mg base (L2.CX P w) 3 (He.ga K "_law_long") fd ["state", "size"] (p__law_long K) := by
  obtain ⟨fd__law_pick, F__law_pick⟩ := T.f__law_pick
  have b__law_pick : Binds K fd__law_pick ["state", "many"] [] := F__law_pick.bindsN fun _ _ _ _ _ _ us hl => match us, hl with | [_, _], _ => rfl
  have G__law_pick : FnOk P w K mg base (L2.CX P w) 1 (He.ga K "_law_pick") fd__law_pick ["state", "many"] (p__law_pick K) := ok__law_pick T F__law_pick
  obtain ⟨fd__law_shuffled, F__law_shuffled⟩ := T.f__law_shuffled
  have b__law_shuffled : Binds K fd__law_shuffled ["state", "row"] [] := F__law_shuffled.bindsN fun _ _ _ _ _ _ us hl => match us, hl with | [_, _], _ => rfl
  have G__law_shuffled : FnOk P w K mg base (L2.CX P w) 2 (He.ga K "_law_shuffled") fd__law_shuffled ["state", "row"] (p__law_shuffled K) := ok__law_shuffled T F__law_shuffled
  have sc := sc__law_long
  refine F.ok sc (fun vs H Q E h => ?_) (fun cdv A outer s H vs Q E hr h => ?_)
  · obtain ⟨g, p, z, B, o, ss, _⟩ := h
    exact (Paired.length ss).trans rfl
  · obtain ⟨⟨state, size⟩, p0, z, B, o, ss, ex, h1, h2, h3, h4, hm, k⟩ := h
    obtain ⟨v0, v1, rfl, z0, z1⟩ := pn2 ss
    cases (show _ = V.ref p0 from z0)
    refine ⟨_, (pss_cons (ps_set (i := 2) sc.nd rfl (Or.inl rfl) (pe_lst pa_nil)) (pss_cons (ps_for (passes_of rfl) rfl (pi_range1 (by rfl) T.b_range (pa_cons (pv 1) pa_nil)) (pg_name (i := 3) sc.nd rfl (Or.inr rfl)) (pss_cons (ps_set (i := 4) sc.nd rfl (Or.inl rfl) (pe_call G__law_shuffled (hr.mono (by decide)) (by rfl) T.m__law_shuffled F__law_shuffled.kp b__law_shuffled .nil passL (pa_cons (pv 0) (pa_cons (pe_lc (own := [("other", 5)]) (g := (gName 5)) (by rfl) sc.nd (pi_range1 (by rfl) T.b_range (pa_cons (pv 1) pa_nil)) (blkOk_by (own := [("other", 5)]) (N := N__law_long) (sc := defScope s__law_long) (by decide +kernel)) (fun _ _ _ _ _ => pg_name (i := 5) sc.nd rfl (Or.inl rfl)) (fun _ _ _ _ _ => pts_one (pt_cmpR op_ne (pv 5) (pv 3) (nomark _))) (fun _ _ _ _ _ => (pv 5))) pa_nil)))) (pss_one (ps_expr (pe_bm PySem.F.plainAttrs_list PySem.F.slot_list_append PySem.F.type_list_append mt_append (pv 2) (pa_cons (pe_slice (sll (K := K) rfl) (pv 4) po_none (po_some (pe_callB (call_max2 rfl) (by rfl) T.b_max (by decide +kernel) (pa_cons pe_int (pa_cons (pe_op op_sub (pe_op op_sub (pv 1) pe_int) (pe_call G__law_pick (hr.mono (by decide)) (by rfl) T.m__law_pick F__law_pick.kp b__law_pick .nil passL (pa_cons (pv 0) (pa_cons pe_int pa_nil)))) pa_nil))))) pa_nil)))))) (pss_one (ps_ret (pv 2))))), ?_⟩
    have w := Wd.start1 (K := K) ex h1 h2 h3 h4
    unfold m__law_long at hm
    refine s_ownNil (rLst rInt) w (fun q2 H1 n3 w1 => ?_)
    try dsimp only
    obtain ⟨xs4, e5, hm⟩ := ob hm
    refine s_for (R := rInt) (oo := (fun (rr : (List Int) × (List (List Int))) => [CL (rLst rInt) K rr.2, CL rInt K rr.1])) (ρ0 := (state, ([] : List (List Int)))) (fun (place9 : Int) (rr : (List Int) × (List (List Int))) => (match rr with | (state6, book7) => ((rngO (0 : Int) size).bind fun xs10 =>
(lcO (fun (other : Int) (rr : Unit) => match rr with | () => some ((!decide (other = place9)), ())) (fun (other : Int) (rr : Unit) => match rr with | () => some (other, ())) xs10 ()).bind fun (ys12, _) =>
(m__law_shuffled (state6, ys12)).bind fun (r14, state16) =>
(m__law_pick (state16, (3 : Int))).bind fun (r20, state22) =>
(appO book7 (cut r14 none (some (if ((size - (1 : Int)) - r20) > (0 : Int) then ((size - (1 : Int)) - r20) else (0 : Int))))).bind fun book23 =>
some (.nx (state22, book23))) : Option (Ctl ((List Int) × (List (List Int))) Unit))) (fun (rr : (List Int) × (List (List Int))) σ' B' => ∃ o_3 : Option V, ∃ o_4 : Option V, ∃ o_5 : Option V, σ' = [some (.ref p0), some v1, some (.ref q2), o_3, o_4, o_5]) (fun zz => finK _ _ zz = some _) w1 (ei_r1 (ev_var (S := rInt.s K size) rfl z1) e5) (fun rr σ' B1 B2 e ⟨o_3, o_4, o_5, hσ⟩ => ⟨o_3, o_4, o_5, hσ⟩) (fun B2 e => ⟨_, _, _, rfl⟩) hm ?_ ?_
    · rintro place9 rst rr vx8 σ' Bt8 Ht8 xt8 wt8 ⟨o_3t8, o_4t8, o_5t8, rfl⟩ hx8 hf N hN dn
      dsimp only [gName]
      obtain ⟨state6, book7⟩ := rr
      obtain ⟨ctl, hfx, hbk8, hrt8⟩ := forL_step hf
      have hm := hfx
      obtain ⟨xs10, e11, hm⟩ := ob hm
      obtain ⟨⟨ys12, _⟩, e13, hm⟩ := ob hm
      try dsimp only at hm
      obtain ⟨⟨r14, state16⟩, e15, hm⟩ := ob hm
      try dsimp only at hm
      refine s_asg wt8 ((ev_call1 (g := (state6, ys12)) 1 rfl (ea_cons (ev_var (S := SA p0) rfl rfl) (ea_cons (ev_lc (R := rInt) (R' := rInt) (oo := (fun (rr : Unit) => [CL (rLst rInt) K book7, CL rInt K state6])) (fun (other : Int) (rr : Unit) => match rr with | () => some ((!decide (other = place9)), ())) (fun (other : Int) (rr : Unit) => match rr with | () => some (other, ())) (lcT rInt K _ 5 [5]) (ei_r1 (ev_var (S := rInt.s K size) rfl (Sv.mono _ xt8 z1)) e11) e13 (lcT_mono _ _ _ _ _) (lcT_name rfl 5 [5] (by intro x; rfl)) (fun other rr bb r1 σ2 B' pD acc ht eB ⟨vx, hσ, hx⟩ => by subst hσ; cases ht; exact (et_test (ev_neI (ev_var (S := rInt.s K other) rfl hx) (ev_var (S := rInt.s K place9) rfl (Sv.mono _ eB hx8))))) (fun other rr yy r1 σ2 B' pD acc he eB ⟨vx, hσ, hx⟩ => by subst hσ; cases he; exact (ev_var (S := rInt.s K other) rfl hx))) ea_nil)) rfl (al_p (fun a z => List.mem_of_mem_eraseIdx z) (al_le sn_s (fun a z => List.mem_of_mem_eraseIdx z) al_nil)) e15 (csi (imm_flat _))).le g_s) (fun w_v18 B17 H17 x17 w17 h19 => ?_)
      obtain ⟨⟨r20, state22⟩, e21, hm⟩ := ob hm
      try dsimp only at hm
      obtain ⟨book23, e24, hm⟩ := ob hm
      refine s_drop w17 (ev_app 0 rfl (ev_var (S := SA q2) rfl rfl) rfl ((ev_cut (ev_var (S := (rLst rInt).s K r14) rfl h19) eo_none (eo_some (ev_max2 ev_int (ev_sub (ev_sub (ev_var (S := rInt.s K size) rfl (Sv.mono _ x17 (Sv.mono _ xt8 z1))) ev_int) ((ev_call1 (g := (state16, (3 : Int))) 1 rfl (ea_cons (ev_var (S := SA p0) rfl rfl) (ea_cons ev_int ea_nil)) rfl (al_p (fun a z => List.mem_of_mem_eraseIdx z) (al_p (fun a z => List.mem_of_mem_eraseIdx z) al_nil)) e21 (csi (imm_flat _))).le g_s)))) src_p).le sn_s) rfl e24) (fun B25 H25 x25 w25 => ?_)
      have hq_ := Option.some.inj hm
      subst hq_
      exact hN (state22, book23) _ _ _ hfx (x17.trans x25) w25 ⟨_, _, _, rfl⟩
    · rintro rr σ' B26 H26 x26 w26 ⟨o_3k27, o_4k27, o_5k27, rfl⟩ hm
      try dsimp only
      replace hm := finK_nx hm
      obtain ⟨state6, book7⟩ := rr
      refine s_ret w26 (ev_var (S := SA q2) rfl rfl) (fun vv B28 H28 x28 w28 hv => ?_)
      cases (show vv = _ from hv)
      cases hm
      obtain ⟨Bz, xz, w29, rz⟩ := r_oa w28 n3
      obtain ⟨oz, gz1, _, gz3, gz4⟩ := w29.cell.get (i := 0) rfl rfl
      exact k _ _ _ oz w29.st w29.ex gz1 gz3 gz4 rz
def m__law_bend : (List Int) × (List (List Int)) → Option (Unit × (List Int) × (List (List Int))) := fun (state, book) =>
  (m__law_pick (state, (book.length : Int))).bind fun (r4, state6) =>
  (rowO book r4).bind fun (j10, row11) =>
  (rngO (0 : Int) (book.length : Int)).bind fun xs20 =>
  (lcO (fun (other : Int) (rr : Unit) => match rr with | () => some (((!decide (other = r4)) && (!decide (other ∈ row11))), ())) (fun (other : Int) (rr : Unit) => match rr with | () => some (other, ())) xs20 ()).bind fun (ys22, _) =>
  (m__law_pick (state6, (4 : Int))).bind fun (r27, state29) =>
  cond ((decide (r27 < (2 : Int))) && (decide ((1 : Int) < (row11.length : Int)))) ((m__law_pick (state29, ((row11.length : Int) - (1 : Int)))).bind fun (r34, state36) =>
  (popAtO row11 (r34 + (1 : Int))).bind fun (r40, row41) =>
  (insO row41 r34 r40).bind fun row43 =>
  some ((), state36, ((book.set j10 row41).set j10 row43))) (cond ((decide (r27 = (2 : Int))) && (decide ((0 : Int) < (row11.length : Int)))) ((popO row11).bind fun (r50, row51) =>
  some ((), state29, (book.set j10 row51))) (cond (decide ((0 : Int) < (ys22.length : Int))) ((m__law_pick (state29, ((row11.length : Int) + (1 : Int)))).bind fun (r58, state60) =>
  (m__law_pick (state60, (ys22.length : Int))).bind fun (r61, state63) =>
  (atI ys22 r61).bind fun t64 =>
  (insO row11 r58 t64).bind fun row66 =>
  some ((), state63, (book.set j10 row66))) (cond (decide ((1 : Int) < (row11.length : Int))) ((m__law_pick (state29, ((row11.length : Int) - (1 : Int)))).bind fun (r76, state78) =>
  (popAtO row11 r76).bind fun (r73, row74) =>
  (appO row74 r73).bind fun row79 =>
  some ((), state78, ((book.set j10 row74).set j10 row79))) (some ((), state29, book)))))
def p__law_bend (K : Fg) : Sp := Pr2 K (fun (g : (List Int) × (List (List Int))) p q => [SA p, SA q]) (fun g => CL rInt K g.1) (fun g => g.2) m__law_bend (fun e => CL rInt K e) rUnit
abbrev N__law_bend : List Str := ["state", "book", "size", "at", "card", "left", "other", "way", "k"]
theorem sc__law_bend : FnScope N__law_bend ["state", "book"] (defScope s__law_bend) := ⟨rfl, rfl, rfl, by decide +kernel, rfl, by decide +kernel, by decide +kernel⟩
theorem ok__law_bend {P : Program} {w : World} {K : Fg} {mg : Str → Option Value} {base : Heap} (T : Tx P K mg) {fd : FuncData} (F : FnP K "_law_bend" s__law_bend (He.ga K "_law_bend") fd) : FnOk P w K mg base (L2.CX P w) 2 (He.ga K "_law_bend") fd ["state", "book"] (p__law_bend K) := by
  obtain ⟨fd__law_pick, F__law_pick⟩ := T.f__law_pick
  have b__law_pick : Binds K fd__law_pick ["state", "many"] [] := F__law_pick.bindsN fun _ _ _ _ _ _ us hl => match us, hl with | [_, _], _ => rfl
  have G__law_pick : FnOk P w K mg base (L2.CX P w) 1 (He.ga K "_law_pick") fd__law_pick ["state", "many"] (p__law_pick K) := ok__law_pick T F__law_pick
  have sc := sc__law_bend
  refine F.ok sc (fun vs H Q E h => ?_) (fun cdv A outer s H vs Q E hr h => ?_)
  · obtain ⟨g, p, q, rs, z, B, ss, _⟩ := h
    exact (Paired.length ss).trans rfl
  · obtain ⟨⟨state, book⟩, p0, q0, rs0, z, B, ss, ex, cel0, nd0, hm, k⟩ := h
    obtain ⟨v0, v1, rfl, z0, z1⟩ := pn2 ss
    cases (show _ = V.ref p0 from z0)
    cases (show _ = V.ref q0 from z1)
    have hl0 := cel_rows (K := K) cel0
    refine ⟨_, (pss_cons (ps_set (i := 2) sc.nd rfl (Or.inl rfl) (pe_callB (clen (K := K) rfl) (by rfl) T.b_len (by decide +kernel) (pa_cons (pv 1) pa_nil))) (pss_cons (ps_set (i := 3) sc.nd rfl (Or.inr rfl) (pe_call G__law_pick (hr.mono (by decide)) (by rfl) T.m__law_pick F__law_pick.kp b__law_pick .nil passL (pa_cons (pv 0) (pa_cons (pv 2) pa_nil)))) (pss_cons (ps_set (i := 4) sc.nd rfl (Or.inr rfl) (pe_ix (ixl (K := K) rfl) (pv 1) (pv 3) (fun _ _ => rfl))) (pss_cons (ps_setLc (i := 5) (own := [("other", 6)]) (g := (gName 6)) (by rfl) sc.nd rfl rfl (sw_true rfl rfl rfl (by decide +kernel)) (pi_range1 (by rfl) T.b_range (pa_cons (pv 2) pa_nil)) (blkOk_by (own := [("other", 6)]) (N := N__law_bend) (sc := defScope s__law_bend) (by decide +kernel)) (fun _ _ _ _ _ => pg_name (i := 6) sc.nd rfl (Or.inl rfl)) (fun _ _ _ _ _ => pts_one (PW.pt (pw_and (pt_cmpR op_ne (pv 6) (pv 3) (nomark _)) (pw_and1 (pt_cmpR (opnin (K := K) rfl) (pv 6) (pv 4) (by rfl)))))) (fun _ _ _ _ _ => (pv 6))) (pss_cons (ps_set (i := 7) sc.nd rfl (Or.inl rfl) (pe_call G__law_pick (hr.mono (by decide)) (by rfl) T.m__law_pick F__law_pick.kp b__law_pick .nil passL (pa_cons (pv 0) (pa_cons pe_int pa_nil)))) (pss_one (ps_if (PW.pt (pw_and (pt_cmpR op_lt (pv 7) pe_int (nomark _)) (pw_and1 (pt_cmpR op_gt (pe_callB (clen (K := K) rfl) (by rfl) T.b_len (by decide +kernel) (pa_cons (pv 4) pa_nil)) pe_int (nomark _))))) (pss_cons (ps_set (i := 8) sc.nd rfl (Or.inl rfl) (pe_call G__law_pick (hr.mono (by decide)) (by rfl) T.m__law_pick F__law_pick.kp b__law_pick .nil passL (pa_cons (pv 0) (pa_cons (pe_op op_sub (pe_callB (clen (K := K) rfl) (by rfl) T.b_len (by decide +kernel) (pa_cons (pv 4) pa_nil)) pe_int) pa_nil)))) (pss_one (ps_expr (pe_bm PySem.F.plainAttrs_list PySem.F.slot_list_insert PySem.F.type_list_insert mt_insert (pv 4) (pa_cons (pv 8) (pa_cons (pe_bm PySem.F.plainAttrs_list PySem.F.slot_list_pop PySem.F.type_list_pop mt_popAt (pv 4) (pa_cons (pe_op op_add (pv 8) pe_int) pa_nil)) pa_nil)))))) (pss_one (ps_if (PW.pt (pw_and (pt_cmpR op_eq (pv 7) pe_int (nomark _)) (pw_and1 (pt_cmpR op_gt (pe_callB (clen (K := K) rfl) (by rfl) T.b_len (by decide +kernel) (pa_cons (pv 4) pa_nil)) pe_int (nomark _))))) (pss_one (ps_expr (pe_bm0 PySem.F.plainAttrs_list PySem.F.slot_list_pop PySem.F.type_list_pop mt_pop (pv 4)))) (pss_one (ps_if (pt_cmpR op_gt (pe_callB (clen (K := K) rfl) (by rfl) T.b_len (by decide +kernel) (pa_cons (pv 5) pa_nil)) pe_int (nomark _)) (pss_one (ps_expr (pe_bm PySem.F.plainAttrs_list PySem.F.slot_list_insert PySem.F.type_list_insert mt_insert (pv 4) (pa_cons (pe_call G__law_pick (hr.mono (by decide)) (by rfl) T.m__law_pick F__law_pick.kp b__law_pick .nil passL (pa_cons (pv 0) (pa_cons (pe_op op_add (pe_callB (clen (K := K) rfl) (by rfl) T.b_len (by decide +kernel) (pa_cons (pv 4) pa_nil)) pe_int) pa_nil))) (pa_cons (pe_ix (ixl (K := K) rfl) (pv 5) (pe_call G__law_pick (hr.mono (by decide)) (by rfl) T.m__law_pick F__law_pick.kp b__law_pick .nil passL (pa_cons (pv 0) (pa_cons (pe_callB (clen (K := K) rfl) (by rfl) T.b_len (by decide +kernel) (pa_cons (pv 5) pa_nil)) pa_nil))) (fun _ _ => rfl)) pa_nil))))) (pss_one (ps_if (pt_cmpR op_gt (pe_callB (clen (K := K) rfl) (by rfl) T.b_len (by decide +kernel) (pa_cons (pv 4) pa_nil)) pe_int (nomark _)) (pss_one (ps_expr (pe_bm PySem.F.plainAttrs_list PySem.F.slot_list_append PySem.F.type_list_append mt_append (pv 4) (pa_cons (pe_bm PySem.F.plainAttrs_list PySem.F.slot_list_pop PySem.F.type_list_pop mt_popAt (pv 4) (pa_cons (pe_call G__law_pick (hr.mono (by decide)) (by rfl) T.m__law_pick F__law_pick.kp b__law_pick .nil passL (pa_cons (pv 0) (pa_cons (pe_op op_sub (pe_callB (clen (K := K) rfl) (by rfl) T.b_len (by decide +kernel) (pa_cons (pv 4) pa_nil)) pe_int) pa_nil))) pa_nil)) pa_nil)))) pss_nil))))))))))))), ?_⟩
    have w := Wd.start2 (K := K) ex cel0 nd0
    replace w : Wd ⟨K, H, B, [p0] ++ q0 :: rs0, H⟩ B H ([p0] ++ q0 :: rs0) ([CL rInt K state] ++ CO rs0 :: book.map (CL rInt K)) := w
    unfold m__law_bend at hm
    refine s_asg w (ev_lenTab 1 rfl (ev_var (S := SA q0) rfl rfl) rfl hl0) (fun w_v2 B1 H1 x1 w1 h3 => ?_)
    obtain ⟨⟨r4, state6⟩, e5, hm⟩ := ob hm
    try dsimp only at hm
    refine s_asg w1 ((ev_call1 (g := (state, (book.length : Int))) 0 rfl (ea_cons (ev_var (S := SA p0) rfl rfl) (ea_cons (ev_var (S := rInt.s K (book.length : Int)) rfl h3) ea_nil)) rfl (al_p (fun a z => List.mem_of_mem_eraseIdx z) (al_p (fun a z => List.mem_of_mem_eraseIdx z) al_nil)) e5 (csi (imm_flat _))).le g_s) (fun w_v8 B7 H7 x7 w7 h9 => ?_)
    obtain ⟨⟨j10, row11⟩, e12, hm⟩ := ob hm
    obtain ⟨hj14, hr15⟩ := rowO_eq e12
    obtain ⟨q13, hq16⟩ := rs_at hl0 hr15
    try dsimp only at hm
    refine s_asg w7 (ev_row 1 rfl (ev_var (S := SA q0) rfl rfl) (ev_var (S := rInt.s K r4) rfl h9) rfl hl0 hj14 hq16) (fun w_v18 B17 H17 x17 w17 h19 => ?_)
    cases (show w_v18 = _ from h19)
    obtain ⟨xs20, e21, hm⟩ := ob hm
    obtain ⟨⟨ys22, _⟩, e23, hm⟩ := ob hm
    try dsimp only at hm
    refine s_asg w17 ((ev_lc (R := rInt) (R' := rInt) (oo := (fun (rr : Unit) => (CL rInt K state6 :: CO rs0 :: List.map (CL rInt K) book))) (fun (other : Int) (rr : Unit) => match rr with | () => some (((!decide (other = r4)) && (!decide (other ∈ row11))), ())) (fun (other : Int) (rr : Unit) => match rr with | () => some (other, ())) (lcT rInt K _ 6 [6]) (ei_r1 (ev_var (S := rInt.s K (book.length : Int)) rfl (Sv.mono _ x17 (Sv.mono _ x7 h3))) e21) e23 (lcT_mono _ _ _ _ _) (lcT_name rfl 6 [6] (by intro x; rfl)) (fun other rr bb r1 σ2 B' pD acc ht eB ⟨vx, hσ, hx⟩ => by subst hσ; cases ht; exact (et_and (et_test (ev_neI (ev_var (S := rInt.s K other) rfl hx) (ev_var (S := rInt.s K r4) rfl (Sv.mono _ eB (Sv.mono _ x17 h9))))) (fun _ => (et_test (ev_notin (ev_var (S := rInt.s K other) rfl hx) (ev_var (S := SA q13) rfl rfl) (src_o (R := rInt) (xs := row11) (j10 + 3) (by simpa using hq16) (show _ = some (CL rInt K row11) by simp [hr15, rInt, rTag, rBool]))))) (fun _ => rfl))) (fun other rr yy r1 σ2 B' pD acc he eB ⟨vx, hσ, hx⟩ => by subst hσ; cases he; exact (ev_var (S := rInt.s K other) rfl hx))).le sn_s) (fun w_v25 B24 H24 x24 w24 h26 => ?_)
    obtain ⟨⟨r27, state29⟩, e28, hm⟩ := ob hm
    try dsimp only at hm
    refine s_asg w24 ((ev_call1 (g := (state6, (4 : Int))) 0 rfl (ea_cons (ev_var (S := SA p0) rfl rfl) (ea_cons ev_int ea_nil)) rfl (al_p (fun a z => List.mem_of_mem_eraseIdx z) (al_p (fun a z => List.mem_of_mem_eraseIdx z) al_nil)) e28 (csi (imm_flat _))).le g_s) (fun w_v31 B30 H30 x30 w30 h32 => ?_)
    try dsimp only
    refine s_if w30 (et_and (et_test (ev_lt (ev_var (S := rInt.s K r27) rfl h32) ev_int)) (fun _ => (et_test (ev_gt (ev_len (ev_var (S := SA q13) rfl rfl) (src_o (R := rInt) (xs := row11) (j10 + 2) (by simpa using hq16) (show _ = some (CL rInt K row11) by simp [hr15, rInt, rTag, rBool]))) ev_int))) (fun _ => rfl)) (fun hb B33 H33 x33 w33 => ?_) (fun hb B33 H33 x33 w33 => ?_)
    · have hm := it hb hm
      obtain ⟨⟨r34, state36⟩, e35, hm⟩ := ob hm
      try dsimp only at hm
      refine s_asg w33 ((ev_call1 (g := (state29, ((row11.length : Int) - (1 : Int)))) 0 rfl (ea_cons (ev_var (S := SA p0) rfl rfl) (ea_cons (ev_sub (ev_len (ev_var (S := SA q13) rfl rfl) (src_o (R := rInt) (xs := row11) (j10 + 2) (by simpa using hq16) (show _ = some (CL rInt K row11) by simp [hr15, rInt, rTag, rBool]))) ev_int) ea_nil)) rfl (al_p (fun a z => List.mem_of_mem_eraseIdx z) (al_p (fun a z => List.mem_of_mem_eraseIdx z) al_nil)) e35 (csi (imm_flat _))).le g_s) (fun w_v38 B37 H37 x37 w37 h39 => ?_)
      obtain ⟨⟨r40, row41⟩, e42, hm⟩ := ob hm
      try dsimp only at hm
      obtain ⟨row43, e44, hm⟩ := ob hm
      refine s_drop w37 (ev_ins (j10 + 2) (by simpa using hq16) (ev_var (S := SA q13) rfl rfl) (show _ = some (CL rInt K row11) by simp [hr15, rInt, rTag, rBool]) (ev_var (S := rInt.s K r34) rfl h39) (ev_popAt (j10 + 2) (by simpa using hq16) (ev_var (S := SA q13) rfl rfl) (show _ = some (CL rInt K row11) by simp [hr15, rInt, rTag, rBool]) (ev_add (ev_var (S := rInt.s K r34) rfl h39) ev_int) (show _ = some (CL rInt K row11) by simp [hr15, rInt, rTag, rBool]) e42) (show _ = some (CL rInt K row41) from row_set (s := CL rInt K row11) (by simp [hr15, rInt, rTag, rBool])) e44) (fun B45 H45 x45 w45 => ?_)
      have w46 := Wd.eq (os' := (CL rInt K state36 :: CO rs0 :: List.map (CL rInt K) ((book.set j10 row41).set j10 row43))) w45 (by simp [List.map_set, rInt, rTag, rBool])
      have hl47 := len_set (j := j10) (y := row43) hl0
      have hr48 := set_at (y := row43) hr15
      cases hm
      exact k _ _ _ w46.st w46.ex w46.cell rfl
    · have hm := ie hb hm
      try dsimp only
      refine s_if w33 (et_and (et_test (ev_eqI (ev_var (S := rInt.s K r27) rfl (Sv.mono _ x33 h32)) ev_int)) (fun _ => (et_test (ev_gt (ev_len (ev_var (S := SA q13) rfl rfl) (src_o (R := rInt) (xs := row11) (j10 + 2) (by simpa using hq16) (show _ = some (CL rInt K row11) by simp [hr15, rInt, rTag, rBool]))) ev_int))) (fun _ => rfl)) (fun hb B49 H49 x49 w49 => ?_) (fun hb B49 H49 x49 w49 => ?_)
      · have hm := it hb hm
        obtain ⟨⟨r50, row51⟩, e52, hm⟩ := ob hm
        try dsimp only at hm
        refine s_drop w49 (ev_pop (j10 + 2) (by simpa using hq16) (ev_var (S := SA q13) rfl rfl) (show _ = some (CL rInt K row11) by simp [hr15, rInt, rTag, rBool]) e52) (fun B53 H53 x53 w53 => ?_)
        have w54 := Wd.eq (os' := (CL rInt K state29 :: CO rs0 :: List.map (CL rInt K) (book.set j10 row51))) w53 (by simp [List.map_set, rInt, rTag, rBool])
        have hl55 := len_set (j := j10) (y := row51) hl0
        have hr56 := set_at (y := row51) hr15
        cases hm
        exact k _ _ _ w54.st w54.ex w54.cell rfl
      · have hm := ie hb hm
        try dsimp only
        refine s_if w49 (et_test (ev_gt (ev_len (ev_var (S := (rLst rInt).s K ys22) rfl (Sv.mono _ x49 (Sv.mono _ x33 (Sv.mono _ x30 h26)))) src_p) ev_int)) (fun hb B57 H57 x57 w57 => ?_) (fun hb B57 H57 x57 w57 => ?_)
        · have hm := it hb hm
          obtain ⟨⟨r58, state60⟩, e59, hm⟩ := ob hm
          try dsimp only at hm
          obtain ⟨⟨r61, state63⟩, e62, hm⟩ := ob hm
          try dsimp only at hm
          obtain ⟨t64, e65, hm⟩ := ob hm
          obtain ⟨row66, e67, hm⟩ := ob hm
          refine s_drop w57 (ev_ins (j10 + 2) (by simpa using hq16) (ev_var (S := SA q13) rfl rfl) (show _ = some (CL rInt K row11) by simp [hr15, rInt, rTag, rBool]) ((ev_call1 (g := (state29, ((row11.length : Int) + (1 : Int)))) 0 rfl (ea_cons (ev_var (S := SA p0) rfl rfl) (ea_cons (ev_add (ev_len (ev_var (S := SA q13) rfl rfl) (src_o (R := rInt) (xs := row11) (j10 + 2) (by simpa using hq16) (show _ = some (CL rInt K row11) by simp [hr15, rInt, rTag, rBool]))) ev_int) ea_nil)) rfl (al_p (fun a z => List.mem_of_mem_eraseIdx z) (al_p (fun a z => List.mem_of_mem_eraseIdx z) al_nil)) e59 (csi (imm_flat _))).le g_s) (ev_ix (ev_var (S := (rLst rInt).s K ys22) rfl (Sv.mono _ x57 (Sv.mono _ x49 (Sv.mono _ x33 (Sv.mono _ x30 h26))))) ((ev_call1 (g := (state60, (ys22.length : Int))) 0 rfl (ea_cons (ev_var (S := SA p0) rfl rfl) (ea_cons (ev_len (ev_var (S := (rLst rInt).s K ys22) rfl (Sv.mono _ x57 (Sv.mono _ x49 (Sv.mono _ x33 (Sv.mono _ x30 h26))))) src_p) ea_nil)) rfl (al_p (fun a z => List.mem_of_mem_eraseIdx z) (al_p (fun a z => List.mem_of_mem_eraseIdx z) al_nil)) e62 (csi (imm_flat _))).le g_s) src_p e65) (show _ = some (CL rInt K row11) by simp [hr15, rInt, rTag, rBool]) e67) (fun B68 H68 x68 w68 => ?_)
          have w69 := Wd.eq (os' := (CL rInt K state63 :: CO rs0 :: List.map (CL rInt K) (book.set j10 row66))) w68 (by simp [List.map_set, rInt, rTag, rBool])
          have hl70 := len_set (j := j10) (y := row66) hl0
          have hr71 := set_at (y := row66) hr15
          cases hm
          exact k _ _ _ w69.st w69.ex w69.cell rfl
        · have hm := ie hb hm
          try dsimp only
          refine s_if w57 (et_test (ev_gt (ev_len (ev_var (S := SA q13) rfl rfl) (src_o (R := rInt) (xs := row11) (j10 + 2) (by simpa using hq16) (show _ = some (CL rInt K row11) by simp [hr15, rInt, rTag, rBool]))) ev_int)) (fun hb B72 H72 x72 w72 => ?_) (fun hb B72 H72 x72 w72 => ?_)
          · have hm := it hb hm
            obtain ⟨⟨r76, state78⟩, e77, hm⟩ := ob hm
            try dsimp only at hm
            obtain ⟨⟨r73, row74⟩, e75, hm⟩ := ob hm
            try dsimp only at hm
            obtain ⟨row79, e80, hm⟩ := ob hm
            refine s_drop w72 (ev_app (j10 + 2) (by simpa using hq16) (ev_var (S := SA q13) rfl rfl) (show _ = some (CL rInt K row11) by simp [hr15, rInt, rTag, rBool]) (ev_popAt (j10 + 2) (by simpa using hq16) (ev_var (S := SA q13) rfl rfl) (show _ = some (CL rInt K row11) by simp [hr15, rInt, rTag, rBool]) ((ev_call1 (g := (state29, ((row11.length : Int) - (1 : Int)))) 0 rfl (ea_cons (ev_var (S := SA p0) rfl rfl) (ea_cons (ev_sub (ev_len (ev_var (S := SA q13) rfl rfl) (src_o (R := rInt) (xs := row11) (j10 + 2) (by simpa using hq16) (show _ = some (CL rInt K row11) by simp [hr15, rInt, rTag, rBool]))) ev_int) ea_nil)) rfl (al_p (fun a z => List.mem_of_mem_eraseIdx z) (al_p (fun a z => List.mem_of_mem_eraseIdx z) al_nil)) e77 (csi (imm_flat _))).le g_s) (show _ = some (CL rInt K row11) by simp [hr15, rInt, rTag, rBool]) e75) (show _ = some (CL rInt K row74) from row_set (s := CL rInt K row11) (by simp [hr15, rInt, rTag, rBool])) e80) (fun B81 H81 x81 w81 => ?_)
            have w82 := Wd.eq (os' := (CL rInt K state78 :: CO rs0 :: List.map (CL rInt K) ((book.set j10 row74).set j10 row79))) w81 (by simp [List.map_set, rInt, rTag, rBool])
            have hl83 := len_set (j := j10) (y := row79) hl0
            have hr84 := set_at (y := row79) hr15
            cases hm
            exact k _ _ _ w82.st w82.ex w82.cell rfl
          · have hm := ie hb hm
            cases hm
            exact k _ _ _ w72.st w72.ex w72.cell rfl
def m__law_book : (List Int) × Int → Option ((List (List Int)) × (List Int)) := fun (state, size) =>
  (m__law_pick (state, (6 : Int))).bind fun (r1, state3) =>
  cond (decide (r1 = (0 : Int))) ((m__law_wild (state3, size)).bind fun (r8, state10) =>
  some (r8, state10)) (cond (decide (r1 = (1 : Int))) ((m__law_long (state3, size)).bind fun (r13, state15) =>
  some (r13, state15)) ((m__law_any_nest (state3, size)).bind fun (r17, state19) =>
  (m__law_cards (r17, size)).bind fun r20 =>
  (m__law_pick (state19, (4 : Int))).bind fun (r28, state30) =>
  (atI [(0 : Int), (1 : Int), ((1 : Int) + r28), (0 : Int)] (r1 - (2 : Int))).bind fun t31 =>
  (rngO (0 : Int) t31).bind fun xs33 =>
  finK (fun (rr : (List Int) × (List (List Int))) => match rr with | (state35, book36) => (some (book36, state35))) (fun (_ : Unit) => none) (forL (fun (turn38 : Int) (rr : (List Int) × (List (List Int))) => (match rr with | (state35, book36) => ((m__law_bend (state35, book36)).bind fun (r39, state41, book42) =>
  some (.nx (state41, book42))) : Option (Ctl ((List Int) × (List (List Int))) Unit))) xs33 (state30, r20))))
def p__law_book (K : Fg) : Sp := Pr1a K (fun (g : (List Int) × Int) p => [SA p, rInt.s K g.2]) (fun g => CL rInt K g.1) m__law_book (fun e => CL rInt K e) (rLst (rLst rInt))
abbrev N__law_book : List Str := ["state", "size", "kind", "book", "turn"]
theorem sc__law_book : FnScope N__law_book ["state", "size"] (defScope s__law_book) := ⟨rfl, rfl, rfl, by decide +kernel, rfl, by decide +kernel, by decide +kernel⟩
theorem ok__law_book {P : Program} {w : World} {K : Fg} {mg : Str → Option Value} {base : Heap} (T : Tx P K mg) {fd : FuncData} (F : FnP K "_law_book" s__law_book (He.ga K "_law_book") fd) : FnOk P w K mg base (L2.CX P w) 6 (He.ga K "_law_book") fd ["state", "size"] (p__law_book K) := by
  obtain ⟨fd__law_any_nest, F__law_any_nest⟩ := T.f__law_any_nest
  have b__law_any_nest : Binds K fd__law_any_nest ["state", "size"] [] := F__law_any_nest.bindsN fun _ _ _ _ _ _ us hl => match us, hl with | [_, _], _ => rfl
  have G__law_any_nest : FnOk P w K mg base (L2.CX P w) 5 (He.ga K "_law_any_nest") fd__law_any_nest ["state", "size"] (p__law_any_nest K) := ok__law_any_nest T F__law_any_nest
  obtain ⟨fd__law_bend, F__law_bend⟩ := T.f__law_bend
  have b__law_bend : Binds K fd__law_bend ["state", "book"] [] := F__law_bend.bindsN fun _ _ _ _ _ _ us hl => match us, hl with | [_, _], _ => rfl
  have G__law_bend : FnOk P w K mg base (L2.CX P w) 2 (He.ga K "_law_bend") fd__law_bend ["state", "book"] (p__law_bend K) := ok__law_bend T F__law_bend
  obtain ⟨fd__law_cards, F__law_cards⟩ := T.f__law_cards
  have b__law_cards : Binds K fd__law_cards ["nodes", "size"] [] := F__law_cards.bindsN fun _ _ _ _ _ _ us hl => match us, hl with | [_, _], _ => rfl
  have G__law_cards : FnOk P w K mg base (L2.CX P w) 2 (He.ga K "_law_cards") fd__law_cards ["nodes", "size"] (p__law_cards K) := ok__law_cards T F__law_cards
  obtain ⟨fd__law_long, F__law_long⟩ := T.f__law_long
  have b__law_long : Binds K fd__law_long ["state", "size"] [] := F__law_long.bindsN fun _ _ _ _ _ _ us hl => match us, hl with | [_, _], _ => rfl
  have G__law_long : FnOk P w K mg base (L2.CX P w) 3 (He.ga K "_law_long") fd__law_long ["state", "size"] (p__law_long K) := ok__law_long T F__law_long
  obtain ⟨fd__law_pick, F__law_pick⟩ := T.f__law_pick
  have b__law_pick : Binds K fd__law_pick ["state", "many"] [] := F__law_pick.bindsN fun _ _ _ _ _ _ us hl => match us, hl with | [_, _], _ => rfl
  have G__law_pick : FnOk P w K mg base (L2.CX P w) 1 (He.ga K "_law_pick") fd__law_pick ["state", "many"] (p__law_pick K) := ok__law_pick T F__law_pick
  obtain ⟨fd__law_wild, F__law_wild⟩ := T.f__law_wild
  have b__law_wild : Binds K fd__law_wild ["state", "size"] [] := F__law_wild.bindsN fun _ _ _ _ _ _ us hl => match us, hl with | [_, _], _ => rfl
  have G__law_wild : FnOk P w K mg base (L2.CX P w) 3 (He.ga K "_law_wild") fd__law_wild ["state", "size"] (p__law_wild K) := ok__law_wild T F__law_wild
  have sc := sc__law_book
  refine F.ok sc (fun vs H Q E h => ?_) (fun cdv A outer s H vs Q E hr h => ?_)
  · obtain ⟨g, p, z, B, o, ss, _⟩ := h
    exact (Paired.length ss).trans rfl
  · obtain ⟨⟨state, size⟩, p0, z, B, o, ss, ex, h1, h2, h3, h4, hm, k⟩ := h
    obtain ⟨v0, v1, rfl, z0, z1⟩ := pn2 ss
    cases (show _ = V.ref p0 from z0)
    refine ⟨_, (pss_cons (ps_set (i := 2) sc.nd rfl (Or.inl rfl) (pe_call G__law_pick (hr.mono (by decide)) (by rfl) T.m__law_pick F__law_pick.kp b__law_pick .nil passL (pa_cons (pv 0) (pa_cons pe_int pa_nil)))) (pss_cons (ps_if (pt_cmpR op_eq (pv 2) pe_int (nomark _)) (pss_one (ps_ret (pe_call G__law_wild (hr.mono (by decide)) (by rfl) T.m__law_wild F__law_wild.kp b__law_wild .nil passL (pa_cons (pv 0) (pa_cons (pv 1) pa_nil))))) pss_nil) (pss_cons (ps_if (pt_cmpR op_eq (pv 2) pe_int (nomark _)) (pss_one (ps_ret (pe_call G__law_long (hr.mono (by decide)) (by rfl) T.m__law_long F__law_long.kp b__law_long .nil passL (pa_cons (pv 0) (pa_cons (pv 1) pa_nil))))) pss_nil) (pss_cons (ps_set (i := 3) sc.nd rfl (Or.inl rfl) (pe_call G__law_cards (hr.mono (by decide)) (by rfl) T.m__law_cards F__law_cards.kp b__law_cards .nil passL (pa_cons (pe_call G__law_any_nest (hr.mono (by decide)) (by rfl) T.m__law_any_nest F__law_any_nest.kp b__law_any_nest .nil passL (pa_cons (pv 0) (pa_cons (pv 1) pa_nil))) (pa_cons (pv 1) pa_nil)))) (pss_cons (ps_for (passes_of rfl) rfl (pi_range1 (by rfl) T.b_range (pa_cons (pe_ix (ixl (K := K) rfl) (pe_lst (pa_cons pe_int (pa_cons pe_int (pa_cons (pe_op op_add pe_int (pe_call G__law_pick (hr.mono (by decide)) (by rfl) T.m__law_pick F__law_pick.kp b__law_pick .nil passL (pa_cons (pv 0) (pa_cons pe_int pa_nil)))) (pa_cons pe_int pa_nil))))) (pe_op op_sub (pv 2) pe_int) (fun _ _ => rfl)) pa_nil)) (pg_name (i := 4) sc.nd rfl (Or.inl rfl)) (pss_one (ps_expr (pe_call G__law_bend (hr.mono (by decide)) (by rfl) T.m__law_bend F__law_bend.kp b__law_bend .nil passL (pa_cons (pv 0) (pa_cons (pv 3) pa_nil)))))) (pss_one (ps_ret (pv 3)))))))), ?_⟩
    have w := Wd.start1 (K := K) ex h1 h2 h3 h4
    unfold m__law_book at hm
    obtain ⟨⟨r1, state3⟩, e2, hm⟩ := ob hm
    try dsimp only at hm
    refine s_asg w ((ev_call1 (g := (state, (6 : Int))) 0 rfl (ea_cons (ev_var (S := SA p0) rfl rfl) (ea_cons ev_int ea_nil)) rfl (al_p (fun a z => List.mem_of_mem_eraseIdx z) (al_p (fun a z => List.mem_of_mem_eraseIdx z) al_nil)) e2 (csi (imm_flat _))).le g_s) (fun w_v5 B4 H4 x4 w4 h6 => ?_)
    try dsimp only
    refine s_if w4 (et_test (ev_eqI (ev_var (S := rInt.s K r1) rfl h6) ev_int)) (fun hb B7 H7 x7 w7 => ?_) (fun hb B7 H7 x7 w7 => ?_)
    · have hm := it hb hm
      obtain ⟨⟨r8, state10⟩, e9, hm⟩ := ob hm
      try dsimp only at hm
      refine s_ret w7 (ev_call1a (g := (state3, size)) 0 rfl (ea_cons (ev_var (S := SA p0) rfl rfl) (ea_cons (ev_var (S := rInt.s K size) rfl (Sv.mono _ x7 (Sv.mono _ x4 z1))) ea_nil)) rfl (al_p (fun _ z => absurd z List.not_mem_nil) (al_p (fun _ z => absurd z List.not_mem_nil) al_nil)) e9) (fun vv B11 H11 x11 w11 hv => ?_)
      cases hm
      obtain ⟨oz, gz1, _, gz3, gz4⟩ := w11.cell.get (i := 0) rfl rfl
      exact k _ _ _ oz w11.st w11.ex gz1 gz3 gz4 hv
    · have hm := ie hb hm
      try dsimp only
      refine s_if w7 (et_test (ev_eqI (ev_var (S := rInt.s K r1) rfl (Sv.mono _ x7 h6)) ev_int)) (fun hb B12 H12 x12 w12 => ?_) (fun hb B12 H12 x12 w12 => ?_)
      · have hm := it hb hm
        obtain ⟨⟨r13, state15⟩, e14, hm⟩ := ob hm
        try dsimp only at hm
        refine s_ret w12 (ev_call1a (g := (state3, size)) 0 rfl (ea_cons (ev_var (S := SA p0) rfl rfl) (ea_cons (ev_var (S := rInt.s K size) rfl (Sv.mono _ x12 (Sv.mono _ x7 (Sv.mono _ x4 z1)))) ea_nil)) rfl (al_p (fun _ z => absurd z List.not_mem_nil) (al_p (fun _ z => absurd z List.not_mem_nil) al_nil)) e14) (fun vv B16 H16 x16 w16 hv => ?_)
        cases hm
        obtain ⟨oz, gz1, _, gz3, gz4⟩ := w16.cell.get (i := 0) rfl rfl
        exact k _ _ _ oz w16.st w16.ex gz1 gz3 gz4 hv
      · have hm := ie hb hm
        obtain ⟨⟨r17, state19⟩, e18, hm⟩ := ob hm
        try dsimp only at hm
        obtain ⟨r20, e21, hm⟩ := ob hm
        refine s_ownT w12 (ev_call0 (g := (r17, size)) (ea_cons (ev_call1 (g := (state3, size)) 0 rfl (ea_cons (ev_var (S := SA p0) rfl rfl) (ea_cons (ev_var (S := rInt.s K size) rfl (Sv.mono _ x12 (Sv.mono _ x7 (Sv.mono _ x4 z1)))) ea_nil)) rfl (al_p (fun a z => List.mem_of_mem_eraseIdx z) (al_p (fun a z => List.mem_of_mem_eraseIdx z) al_nil)) e18 (csi (imm_flat _))) (ea_cons (ev_var (S := rInt.s K size) rfl (Sv.mono _ x12 (Sv.mono _ x7 (Sv.mono _ x4 z1)))) ea_nil)) (al_le g_s (fun _ z => z) (al_p (fun _ z => z) al_nil)) e21) ⟨csi (imm_flat _), trivial⟩ (fun q23 rs24 B22 H22 x22 hl27 n25 nr26 w22 => ?_)
        obtain ⟨⟨r28, state30⟩, e29, hm⟩ := ob hm
        try dsimp only at hm
        obtain ⟨t31, e32, hm⟩ := ob hm
        obtain ⟨xs33, e34, hm⟩ := ob hm
        refine s_for (R := rInt) (oo := (fun (rr : (List Int) × (List (List Int))) => (CL rInt K rr.1 :: CO rs24 :: List.map (CL rInt K) rr.2))) (ρ0 := (state30, r20)) (fun (turn38 : Int) (rr : (List Int) × (List (List Int))) => (match rr with | (state35, book36) => ((m__law_bend (state35, book36)).bind fun (r39, state41, book42) =>
some (.nx (state41, book42))) : Option (Ctl ((List Int) × (List (List Int))) Unit))) (fun (rr : (List Int) × (List (List Int))) σ' B' => ∃ o_4 : Option V, σ' = [some (.ref p0), some v1, some w_v5, some (.ref q23), o_4] ∧ rs24.length = rr.2.length) (fun zz => finK _ _ zz = some _) w22 (ei_r1 (ev_ix (ev_lst (R := rInt) (xs := [(0 : Int), (1 : Int), ((1 : Int) + r28), (0 : Int)]) (ea_cons ev_int (ea_cons ev_int (ea_cons (ev_add ev_int ((ev_call1 (g := (state19, (4 : Int))) 0 rfl (ea_cons (ev_var (S := SA p0) rfl rfl) (ea_cons ev_int ea_nil)) rfl (al_p (fun a z => List.mem_of_mem_eraseIdx z) (al_p (fun a z => List.mem_of_mem_eraseIdx z) al_nil)) e29 (csi (imm_flat _))).le g_s)) (ea_cons ev_int ea_nil)))) (by show 4 ≤ 1000; decide)) (ev_sub (ev_var (S := rInt.s K r1) rfl (Sv.mono _ x22 (Sv.mono _ x12 (Sv.mono _ x7 h6)))) ev_int) src_n e32) e34) (fun rr σ' B1 B2 e ⟨o_4, hσ, hj0⟩ => ⟨o_4, hσ, hj0⟩) (fun B2 e => ⟨_, rfl, hl27⟩) hm ?_ ?_
        · rintro turn38 rst rr vx37 σ' Bt37 Ht37 xt37 wt37 ⟨o_4t37, rfl, hj0t37⟩ hx37 hf N hN dn
          dsimp only [gName]
          obtain ⟨state35, book36⟩ := rr
          obtain ⟨ctl, hfx, hbk37, hrt37⟩ := forL_step hf
          have hm := hfx
          obtain ⟨⟨r39, state41, book42⟩, e40, hm⟩ := ob hm
          try dsimp only at hm
          refine s_drop wt37 ((ev_call2 (ks := [p0]) (os := [CL rInt K state35]) (g := (state35, book36)) 0 rfl (ea_cons (ev_var (S := SA p0) rfl rfl) (ea_cons (ev_var (S := SA q23) rfl rfl) ea_nil)) rfl rfl (al_p (fun a z => List.mem_append_left _ (List.mem_of_mem_eraseIdx z)) (al_p (fun a z => List.mem_append_left _ (List.mem_of_mem_eraseIdx z)) al_nil)) e40 (csi (imm_flat _))).le g_s) (fun B44 H44 x44 w44 => ?_)
          have hl46 := rows_len (ks := [p0]) (os := [CL rInt K state41]) w44 rfl
          have hq_ := Option.some.inj hm
          subst hq_
          exact hN (state41, book42) _ _ _ hfx x44 w44 ⟨_, rfl, hl46⟩
        · rintro rr σ' B47 H47 x47 w47 ⟨o_4k48, rfl, hj0k48⟩ hm
          try dsimp only
          replace hm := finK_nx hm
          obtain ⟨state35, book36⟩ := rr
          refine s_ret w47 (ev_var (S := SA q23) rfl rfl) (fun vv B49 H49 x49 w49 hv => ?_)
          cases (show vv = _ from hv)
          cases hm
          obtain ⟨Bz, xz, w50, rz⟩ := r_grp (ks := [p0]) (os := [CL rInt K state35]) w49 n25 nr26 rfl
          obtain ⟨oz, gz1, _, gz3, gz4⟩ := w50.cell.get (i := 0) rfl rfl
          exact k _ _ _ oz w50.st w50.ex gz1 gz3 gz4 (rLL.fr rz)
def m__law_open : (List Int) × (List Int) → Option (Int) := fun (card, shut) =>
  finK (fun (_ : Unit) => (some (-(1 : Int)))) (fun (tt : Int) => some tt) (forL (fun (place2 : Int) (_ : Unit) => (cond (!decide (place2 ∈ shut)) (some (.rt place2)) (some (.nx ())) : Option (Ctl Unit Int))) card ())
def p__law_open (K : Fg) : Sp := Pr0 K (fun (g : (List Int) × (List Int)) => [(rLst rInt).s K g.1, (rLst rInt).s K g.2]) m__law_open rInt
abbrev N__law_open : List Str := ["card", "shut", "place"]
theorem sc__law_open : FnScope N__law_open ["card", "shut"] (defScope s__law_open) := ⟨rfl, rfl, rfl, by decide +kernel, rfl, by decide +kernel, by decide +kernel⟩
theorem ok__law_open {P : Program} {w : World} {K : Fg} {mg : Str → Option Value} {base : Heap} (T : Tx P K mg) {fd : FuncData} (F : FnP K "_law_open" s__law_open (He.ga K "_law_open") fd) : FnOk P w K mg base (L2.CX P w) 1 (He.ga K "_law_open") fd ["card", "shut"] (p__law_open K) := by
  have sc := sc__law_open
  refine F.ok sc (fun vs H Q E h => ?_) (fun cdv A outer s H vs Q E hr h => ?_)
  · obtain ⟨g, z, B, ss, _⟩ := h
    exact (Paired.length ss).trans rfl
  · obtain ⟨⟨card, shut⟩, z, B, ss, ex, hm, k⟩ := h
    obtain ⟨v0, v1, rfl, z0, z1⟩ := pn2 ss
    refine ⟨_, (pss_cons (ps_for (passes_of rfl) rfl (pi_list (pv 0)) (pg_name (i := 2) sc.nd rfl (Or.inl rfl)) (pss_one (ps_if (pt_cmpR (opnin (K := K) rfl) (pv 2) (pv 1) (by rfl)) (pss_one (ps_ret (pv 2))) pss_nil))) (pss_one (ps_ret (pe_un un_neg pe_int)))), ?_⟩
    have w := Wd.start (K := K) ex
    unfold m__law_open at hm
    refine s_for (R := rInt) (oo := (fun (rr : Unit) => [])) (ρ0 := ()) (fun (place2 : Int) (_ : Unit) => (cond (!decide (place2 ∈ shut)) (some (.rt place2)) (some (.nx ())) : Option (Ctl Unit Int))) (fun (_ : Unit) σ' B' => ∃ o_2 : Option V, σ' = [some v0, some v1, o_2]) (fun zz => finK _ _ zz = some _) w (ei_list (ev_var (S := (rLst rInt).s K card) rfl z0)) (fun rr σ' B1 B2 e ⟨o_2, hσ⟩ => ⟨o_2, hσ⟩) (fun B2 e => ⟨_, rfl⟩) hm ?_ ?_
    · rintro place2 rst rr vx1 σ' Bt1 Ht1 xt1 wt1 ⟨o_2t1, rfl⟩ hx1 hf N hN dn
      dsimp only [gName]
      obtain ⟨ctl, hfx, hbk1, hrt1⟩ := forL_step hf
      have hm := hfx
      try dsimp only
      refine s_if wt1 (et_test (ev_notin (ev_var (S := rInt.s K place2) rfl hx1) (ev_var (S := (rLst rInt).s K shut) rfl (Sv.mono _ xt1 z1)) src_p)) (fun hb B3 H3 x3 w3 => ?_) (fun hb B3 H3 x3 w3 => ?_)
      · have hm := it hb hm
        refine s_ret w3 (ev_var (S := rInt.s K place2) rfl (Sv.mono _ x3 hx1)) (fun vv B4 H4 x4 w4 hv => ?_)
        cases hm
        replace hm := hrt1 _ rfl
        cases hm
        exact k _ _ _ w4.st w4.ex ((imm_flat _) _ _ _ _ _ hv)
      · have hm := ie hb hm
        have hq_ := Option.some.inj hm
        subst hq_
        exact hN () _ _ _ hfx x3 w3 ⟨_, rfl⟩
    · rintro rr σ' B5 H5 x5 w5 ⟨o_2k6, rfl⟩ hm
      try dsimp only
      replace hm := finK_nx hm
      refine s_ret w5 (ev_neg ev_int) (fun vv B7 H7 x7 w7 hv => ?_)
      cases hm
      exact k _ _ _ w7.st w7.ex ((imm_flat _) _ _ _ _ _ hv)
def m__law_bad_list : (List Int) × (List Int) × Int → Option ((Int × (List Int)) × (List Int)) := fun (state, row, size) =>
  (m__law_pick (state, ((row.length : Int) + (1 : Int)))).bind fun (r1, state3) =>
  (m__law_stranger (state3, size)).bind fun (r7, state9) =>
  (cond (decide ((0 : Int) < r1)) ((m__law_pick (state9, (3 : Int))).bind fun (r13, state15) => some ((decide (r13 = (0 : Int))), state15)) (some (false, state9))).bind fun (b16, state18) =>
  (cond b16 ((m__law_pick (state18, r1)).bind fun (r22, state24) =>
  (atI row r22).bind fun t25 =>
  some (state24, t25)) (some (state18, r7))).bind fun (state20, wrong21) =>
  (m__law_pick (state20, (2 : Int))).bind fun (r35, state37) =>
  (cond (decide (r35 = (0 : Int))) (some [(size + (30 : Int))]) (some ([] : List Int))).bind fun more39 =>
  (catO (cut row none (some r1)) [wrong21]).bind fun t47 =>
  (lcO (fun (thing : Int) (rr : Unit) => match rr with | () => some ((!decide (thing = wrong21)), ())) (fun (thing : Int) (rr : Unit) => match rr with | () => some (thing, ())) (cut row (some r1) none) ()).bind fun (ys48, _) =>
  (catO t47 ys48).bind fun t52 =>
  (catO t52 more39).bind fun t55 =>
  some ((wrong21, t55), state37)
def p__law_bad_list (K : Fg) : Sp := Pr1a K (fun (g : (List Int) × (List Int) × Int) p => [SA p, (rLst rInt).s K g.2.1, rInt.s K g.2.2]) (fun g => CL rInt K g.1) m__law_bad_list (fun e => CL rInt K e) (rT2 rInt (rLst rInt))
abbrev N__law_bad_list : List Str := ["state", "row", "size", "at", "wrong", "more", "thing"]
theorem sc__law_bad_list : FnScope N__law_bad_list ["state", "row", "size"] (defScope s__law_bad_list) := ⟨rfl, rfl, rfl, by decide +kernel, rfl, by decide +kernel, by decide +kernel⟩
theorem ok__law_bad_list {P : Program} {w : World} {K : Fg} {mg : Str → Option Value} {base : Heap} (T : Tx P K mg) {fd : FuncData} (F : FnP K "_law_bad_list" s__law_bad_list (He.ga K "_law_bad_list") fd) : FnOk P w K mg base (L2.CX P w) 3 (He.ga K "_law_bad_list") fd ["state", "row", "size"] (p__law_bad_list K) := by
  obtain ⟨fd__law_pick, F__law_pick⟩ := T.f__law_pick
  have b__law_pick : Binds K fd__law_pick ["state", "many"] [] := F__law_pick.bindsN fun _ _ _ _ _ _ us hl => match us, hl with | [_, _], _ => rfl
  have G__law_pick : FnOk P w K mg base (L2.CX P w) 1 (He.ga K "_law_pick") fd__law_pick ["state", "many"] (p__law_pick K) := ok__law_pick T F__law_pick
  obtain ⟨fd__law_stranger, F__law_stranger⟩ := T.f__law_stranger
  have b__law_stranger : Binds K fd__law_stranger ["state", "size"] [] := F__law_stranger.bindsN fun _ _ _ _ _ _ us hl => match us, hl with | [_, _], _ => rfl
  have G__law_stranger : FnOk P w K mg base (L2.CX P w) 2 (He.ga K "_law_stranger") fd__law_stranger ["state", "size"] (p__law_stranger K) := ok__law_stranger T F__law_stranger
  have sc := sc__law_bad_list
  refine F.ok sc (fun vs H Q E h => ?_) (fun cdv A outer s H vs Q E hr h => ?_)
  · obtain ⟨g, p, z, B, o, ss, _⟩ := h
    exact (Paired.length ss).trans rfl
  · obtain ⟨⟨state, row, size⟩, p0, z, B, o, ss, ex, h1, h2, h3, h4, hm, k⟩ := h
    obtain ⟨v0, v1, v2, rfl, z0, z1, z2⟩ := pn3 ss
    cases (show _ = V.ref p0 from z0)
    refine ⟨_, (pss_cons (ps_set (i := 3) sc.nd rfl (Or.inl rfl) (pe_call G__law_pick (hr.mono (by decide)) (by rfl) T.m__law_pick F__law_pick.kp b__law_pick .nil passL (pa_cons (pv 0) (pa_cons (pe_op op_add (pe_callB (clen (K := K) rfl) (by rfl) T.b_len (by decide +kernel) (pa_cons (pv 1) pa_nil)) pe_int) pa_nil)))) (pss_cons (ps_set (i := 4) sc.nd rfl (Or.inr rfl) (pe_call G__law_stranger (hr.mono (by decide)) (by rfl) T.m__law_stranger F__law_stranger.kp b__law_stranger .nil passL (pa_cons (pv 0) (pa_cons (pv 2) pa_nil)))) (pss_cons (ps_if (PW.pt (pw_and (pt_cmpR op_gt (pv 3) pe_int (nomark _)) (pw_and1 (pt_cmpR op_eq (pe_call G__law_pick (hr.mono (by decide)) (by rfl) T.m__law_pick F__law_pick.kp b__law_pick .nil passL (pa_cons (pv 0) (pa_cons pe_int pa_nil))) pe_int (nomark _))))) (pss_one (ps_set (i := 4) sc.nd rfl (Or.inr rfl) (pe_ix (ixl (K := K) rfl) (pv 1) (pe_call G__law_pick (hr.mono (by decide)) (by rfl) T.m__law_pick F__law_pick.kp b__law_pick .nil passL (pa_cons (pv 0) (pa_cons (pv 3) pa_nil))) (fun _ _ => rfl)))) pss_nil) (pss_cons (ps_set (i := 5) sc.nd rfl (Or.inl rfl) (pe_lst pa_nil)) (pss_cons (ps_if (pt_cmpR op_eq (pe_call G__law_pick (hr.mono (by decide)) (by rfl) T.m__law_pick F__law_pick.kp b__law_pick .nil passL (pa_cons (pv 0) (pa_cons pe_int pa_nil))) pe_int (nomark _)) (pss_one (ps_set (i := 5) sc.nd rfl (Or.inl rfl) (pe_lst (pa_cons (pe_op op_add (pv 2) pe_int) pa_nil)))) pss_nil) (pss_one (ps_ret (pe_tup (pa_cons (pv 4) (pa_cons (pe_op op_cat (pe_op op_cat (pe_op op_cat (pe_slice (sll (K := K) rfl) (pv 1) po_none (po_some (pv 3))) (pe_lst (pa_cons (pv 4) pa_nil))) (pe_lc (own := [("thing", 6)]) (g := (gName 6)) (by rfl) sc.nd (pi_list (pe_slice (sll (K := K) rfl) (pv 1) (po_some (pv 3)) po_none)) (blkOk_by (own := [("thing", 6)]) (N := N__law_bad_list) (sc := defScope s__law_bad_list) (by decide +kernel)) (fun _ _ _ _ _ => pg_name (i := 6) sc.nd rfl (Or.inl rfl)) (fun _ _ _ _ _ => pts_one (pt_cmpR op_ne (pv 6) (pv 4) (nomark _))) (fun _ _ _ _ _ => (pv 6)))) (pv 5)) pa_nil)))))))))), ?_⟩
    have w := Wd.start1 (K := K) ex h1 h2 h3 h4
    unfold m__law_bad_list at hm
    obtain ⟨⟨r1, state3⟩, e2, hm⟩ := ob hm
    try dsimp only at hm
    refine s_asg w ((ev_call1 (g := (state, ((row.length : Int) + (1 : Int)))) 0 rfl (ea_cons (ev_var (S := SA p0) rfl rfl) (ea_cons (ev_add (ev_len (ev_var (S := (rLst rInt).s K row) rfl z1) src_p) ev_int) ea_nil)) rfl (al_p (fun a z => List.mem_of_mem_eraseIdx z) (al_p (fun a z => List.mem_of_mem_eraseIdx z) al_nil)) e2 (csi (imm_flat _))).le g_s) (fun w_v5 B4 H4 x4 w4 h6 => ?_)
    obtain ⟨⟨r7, state9⟩, e8, hm⟩ := ob hm
    try dsimp only at hm
    refine s_asg w4 ((ev_call1 (g := (state3, size)) 0 rfl (ea_cons (ev_var (S := SA p0) rfl rfl) (ea_cons (ev_var (S := rInt.s K size) rfl (Sv.mono _ x4 z2)) ea_nil)) rfl (al_p (fun a z => List.mem_of_mem_eraseIdx z) (al_p (fun a z => List.mem_of_mem_eraseIdx z) al_nil)) e8 (csi (imm_flat _))).le g_s) (fun w_v11 B10 H10 x10 w10 h12 => ?_)
    obtain ⟨⟨b16, state18⟩, e17, hm⟩ := ob hm
    try dsimp only at hm
    obtain ⟨rj, hA58, hm⟩ := ob hm
    refine s_ifJ (ks2 := [p0]) (oo := (fun (rr : (List Int) × Int) => [CL rInt K rr.1])) (fun (rr : (List Int) × Int) σ' B' => ∃ v_4 : V, ∃ o_5 : Option V, ∃ o_6 : Option V, σ' = [some (.ref p0), some v1, some v2, some w_v5, some v_4, o_5, o_6] ∧ (rInt.s K rr.2).p v_4 B') (fun rr => rr = rj) w10 (et_andO (o3 := [CL rInt K state18]) (b := b16) (et_test (ev_gt (ev_var (S := rInt.s K r1) rfl (Sv.mono _ x10 h6)) ev_int)) (fun hc => by have e17 := it hc e17; obtain ⟨⟨r13, state15⟩, e14, e17⟩ := ob e17; try dsimp only at e17; have hs0_ := Option.some.inj e17; obtain ⟨hq0_, hs1_⟩ := Prod.mk.inj hs0_; subst hq0_; subst hs1_; exact (et_test (ev_eqI ((ev_call1 (g := (state9, (3 : Int))) 0 rfl (ea_cons (ev_var (S := SA p0) rfl rfl) (ea_cons ev_int ea_nil)) rfl (al_p (fun a z => List.mem_of_mem_eraseIdx z) (al_p (fun a z => List.mem_of_mem_eraseIdx z) al_nil)) e14 (csi (imm_flat _))).le g_s) ev_int))) (fun hc => by have e17 := ie hc e17; cases e17; exact ⟨rfl, rfl⟩)) ?_ (fun hb B19 H19 x19 w19 N hN => ?_) (fun hb B19 H19 x19 w19 N hN => ?_)
    · rintro rr σ' B30 H30 x30 w30 ⟨v_4k31, o_5k31, o_6k31, rfl, hj0k31⟩ hq
      subst hq
      obtain ⟨state20, wrong21⟩ := rr
      try dsimp only
      refine s_asg w30 ((ev_lst (R := rInt) (xs := []) ea_nil (by decide)).le sn_s) (fun w_v33 B32 H32 x32 w32 h34 => ?_)
      obtain ⟨⟨r35, state37⟩, e36, hm⟩ := ob hm
      try dsimp only at hm
      obtain ⟨rj, hA57, hm⟩ := ob hm
      refine s_ifJ (ks2 := [p0]) (oo := (fun (rr : (List Int)) => [CL rInt K state37])) (fun (rr : (List Int)) σ' B' => ∃ v_5 : V, ∃ o_6 : Option V, σ' = [some (.ref p0), some v1, some v2, some w_v5, some v_4k31, some v_5, o_6] ∧ ((rLst rInt).s K rr).p v_5 B') (fun rr => rr = rj) w32 (et_test (ev_eqI ((ev_call1 (g := (state20, (2 : Int))) 0 rfl (ea_cons (ev_var (S := SA p0) rfl rfl) (ea_cons ev_int ea_nil)) rfl (al_p (fun a z => List.mem_of_mem_eraseIdx z) (al_p (fun a z => List.mem_of_mem_eraseIdx z) al_nil)) e36 (csi (imm_flat _))).le g_s) ev_int)) ?_ (fun hb B38 H38 x38 w38 N hN => ?_) (fun hb B38 H38 x38 w38 N hN => ?_)
      · rintro more39 σ' B43 H43 x43 w43 ⟨v_5k44, o_6k44, rfl, hj0k44⟩ hq
        subst hq
        try dsimp only
        obtain ⟨t47, e45, hm⟩ := ob hm
        obtain ⟨⟨ys48, _⟩, e49, hm⟩ := ob hm
        try dsimp only at hm
        obtain ⟨t52, e50, hm⟩ := ob hm
        obtain ⟨t55, e53, hm⟩ := ob hm
        refine s_ret w43 (ev_T2 (ea_cons (ev_var (S := rInt.s K wrong21) rfl (Sv.mono _ x43 (Sv.mono _ x32 hj0k31))) (ea_cons ((ev_catO (ev_catO (ev_catO (ev_cut (ev_var (S := (rLst rInt).s K row) rfl (Sv.mono _ x43 (Sv.mono _ x32 (Sv.mono _ x30 (Sv.mono _ x10 (Sv.mono _ x4 z1)))))) eo_none (eo_some (ev_var (S := rInt.s K r1) rfl (Sv.mono _ x43 (Sv.mono _ x32 (Sv.mono _ x30 (Sv.mono _ x10 h6)))))) src_p) (ev_lst (R := rInt) (xs := [wrong21]) (ea_cons (ev_var (S := rInt.s K wrong21) rfl (Sv.mono _ x43 (Sv.mono _ x32 hj0k31))) ea_nil) (by show 1 ≤ 1000; decide)) src_n src_n e45) (ev_lc (R := rInt) (R' := rInt) (oo := (fun (rr : Unit) => [CL rInt K state37])) (fun (thing : Int) (rr : Unit) => match rr with | () => some ((!decide (thing = wrong21)), ())) (fun (thing : Int) (rr : Unit) => match rr with | () => some (thing, ())) (lcT rInt K _ 6 [6]) (ei_list ((ev_cut (ev_var (S := (rLst rInt).s K row) rfl (Sv.mono _ x43 (Sv.mono _ x32 (Sv.mono _ x30 (Sv.mono _ x10 (Sv.mono _ x4 z1)))))) (eo_some (ev_var (S := rInt.s K r1) rfl (Sv.mono _ x43 (Sv.mono _ x32 (Sv.mono _ x30 (Sv.mono _ x10 h6)))))) eo_none src_p).le sn_s)) e49 (lcT_mono _ _ _ _ _) (lcT_name rfl 6 [6] (by intro x; rfl)) (fun thing rr bb r1 σ2 B' pD acc ht eB ⟨vx, hσ, hx⟩ => by subst hσ; cases ht; exact (et_test (ev_neI (ev_var (S := rInt.s K thing) rfl hx) (ev_var (S := rInt.s K wrong21) rfl (Sv.mono _ eB (Sv.mono _ x43 (Sv.mono _ x32 hj0k31))))))) (fun thing rr yy r1 σ2 B' pD acc he eB ⟨vx, hσ, hx⟩ => by subst hσ; cases he; exact (ev_var (S := rInt.s K thing) rfl hx))) src_n src_n e50) (ev_var (S := (rLst rInt).s K more39) rfl hj0k44) src_n src_p e53).le sn_s) ea_nil))) (fun vv B56 H56 x56 w56 hv => ?_)
        cases hm
        obtain ⟨oz, gz1, _, gz3, gz4⟩ := w56.cell.get (i := 0) rfl rfl
        exact k _ _ _ oz w56.st w56.ex gz1 gz3 gz4 hv
      · have hm := it hb hA57
        refine s_asg w38 ((ev_lst (R := rInt) (xs := [(size + (30 : Int))]) (ea_cons (ev_add (ev_var (S := rInt.s K size) rfl (Sv.mono _ x38 (Sv.mono _ x32 (Sv.mono _ x30 (Sv.mono _ x10 (Sv.mono _ x4 z2)))))) ev_int) ea_nil) (by show 1 ≤ 1000; decide)).le sn_s) (fun w_v41 B40 H40 x40 w40 h42 => ?_)
        have hq_ := Option.some.inj hm
        subst hq_
        exact hN [(size + (30 : Int))] _ _ _ (x38.trans x40) w40 ⟨w_v41, _, rfl, h42⟩ rfl
      · have hm := ie hb hA57
        have hq_ := Option.some.inj hm
        subst hq_
        exact hN ([] : List Int) _ _ _ x38 w38 ⟨w_v33, _, rfl, (Sv.mono _ x38 h34)⟩ rfl
    · have hm := it hb hA58
      obtain ⟨⟨r22, state24⟩, e23, hm⟩ := ob hm
      try dsimp only at hm
      obtain ⟨t25, e26, hm⟩ := ob hm
      refine s_asg w19 (ev_ix (ev_var (S := (rLst rInt).s K row) rfl (Sv.mono _ x19 (Sv.mono _ x10 (Sv.mono _ x4 z1)))) ((ev_call1 (g := (state18, r1)) 0 rfl (ea_cons (ev_var (S := SA p0) rfl rfl) (ea_cons (ev_var (S := rInt.s K r1) rfl (Sv.mono _ x19 (Sv.mono _ x10 h6))) ea_nil)) rfl (al_p (fun a z => List.mem_of_mem_eraseIdx z) (al_p (fun a z => List.mem_of_mem_eraseIdx z) al_nil)) e23 (csi (imm_flat _))).le g_s) src_p e26) (fun w_v28 B27 H27 x27 w27 h29 => ?_)
      have hq_ := Option.some.inj hm
      subst hq_
      exact hN (state24, t25) _ _ _ (x19.trans x27) w27 ⟨w_v28, _, _, rfl, h29⟩ rfl
    · have hm := ie hb hA58
      have hq_ := Option.some.inj hm
      subst hq_
      exact hN (state18, r7) _ _ _ x19 w19 ⟨w_v11, _, _, rfl, (Sv.mono _ x19 h12)⟩ rfl
def m__law_way : (List (List Int)) × (List Int) × (List (List Int)) × Int → Option (List Int) := fun (book, shut, known, place) =>
  (rngO (0 : Int) ((book.length : Int) + (1 : Int))).bind fun xs4 =>
  finK (fun (way6 : (List Int)) => (some way6)) (fun (_ : Unit) => none) (forL (fun (turn8 : Int) (way6 : (List Int)) => ((atI way6 (-(1 : Int))).bind fun t9 =>
  cond (!decide (t9 ∈ shut)) (some (.bk way6)) ((atI way6 (-(1 : Int))).bind fun t12 =>
  (atI book t12).bind fun t14 =>
  (atI way6 (-(1 : Int))).bind fun t16 =>
  (atI known t16).bind fun t18 =>
  (catO t18 way6).bind fun t22 =>
  (m__law_open (t14, t22)).bind fun r23 =>
  (appO way6 r23).bind fun way25 =>
  some (.nx way25)) : Option (Ctl (List Int) Unit))) xs4 [place])
def p__law_way (K : Fg) : Sp := Pr0 K (fun (g : (List (List Int)) × (List Int) × (List (List Int)) × Int) => [(rLst (rLst rInt)).s K g.1, (rLst rInt).s K g.2.1, (rLst (rLst rInt)).s K g.2.2.1, rInt.s K g.2.2.2]) m__law_way (rLst rInt)
abbrev N__law_way : List Str := ["book", "shut", "known", "place", "way", "turn"]
theorem sc__law_way : FnScope N__law_way ["book", "shut", "known", "place"] (defScope s__law_way) := ⟨rfl, rfl, rfl, by decide +kernel, rfl, by decide +kernel, by decide +kernel⟩
theorem ok__law_way {P : Program} {w : World} {K : Fg} {mg : Str → Option Value} {base : Heap} (T : Tx P K mg) {fd : FuncData} (F : FnP K "_law_way" s__law_way (He.ga K "_law_way") fd) : FnOk P w K mg base (L2.CX P w) 2 (He.ga K "_law_way") fd ["book", "shut", "known", "place"] (p__law_way K) := by
  obtain ⟨fd__law_open, F__law_open⟩ := T.f__law_open
  have b__law_open : Binds K fd__law_open ["card", "shut"] [] := F__law_open.bindsN fun _ _ _ _ _ _ us hl => match us, hl with | [_, _], _ => rfl
  have G__law_open : FnOk P w K mg base (L2.CX P w) 1 (He.ga K "_law_open") fd__law_open ["card", "shut"] (p__law_open K) := ok__law_open T F__law_open
  have sc := sc__law_way
  refine F.ok sc (fun vs H Q E h => ?_) (fun cdv A outer s H vs Q E hr h => ?_)
  · obtain ⟨g, z, B, ss, _⟩ := h
    exact (Paired.length ss).trans rfl
  · obtain ⟨⟨book, shut, known, place⟩, z, B, ss, ex, hm, k⟩ := h
    obtain ⟨v0, v1, v2, v3, rfl, z0, z1, z2, z3⟩ := pn4 ss
    refine ⟨_, (pss_cons (ps_set (i := 4) sc.nd rfl (Or.inl rfl) (pe_lst (pa_cons (pv 3) pa_nil))) (pss_cons (ps_for (passes_of rfl) rfl (pi_range1 (by rfl) T.b_range (pa_cons (pe_op op_add (pe_callB (clen (K := K) rfl) (by rfl) T.b_len (by decide +kernel) (pa_cons (pv 0) pa_nil)) pe_int) pa_nil)) (pg_name (i := 5) sc.nd rfl (Or.inl rfl)) (pss_cons (ps_if (pt_cmpR (opnin (K := K) rfl) (pe_ix (ixl (K := K) rfl) (pv 4) (pe_un un_neg pe_int) (fun _ _ => rfl)) (pv 1) (by rfl)) (pss_one ps_break) pss_nil) (pss_one (ps_expr (pe_bm PySem.F.plainAttrs_list PySem.F.slot_list_append PySem.F.type_list_append mt_append (pv 4) (pa_cons (pe_call G__law_open (hr.mono (by decide)) (by rfl) T.m__law_open F__law_open.kp b__law_open .nil passL (pa_cons (pe_ix (ixl (K := K) rfl) (pv 0) (pe_ix (ixl (K := K) rfl) (pv 4) (pe_un un_neg pe_int) (fun _ _ => rfl)) (fun _ _ => rfl)) (pa_cons (pe_op op_cat (pe_ix (ixl (K := K) rfl) (pv 2) (pe_ix (ixl (K := K) rfl) (pv 4) (pe_un un_neg pe_int) (fun _ _ => rfl)) (fun _ _ => rfl)) (pv 4)) pa_nil))) pa_nil)))))) (pss_one (ps_ret (pv 4))))), ?_⟩
    have w := Wd.start (K := K) ex
    unfold m__law_way at hm
    refine s_own w (ev_lst (R := rInt) (xs := [place]) (ea_cons (ev_var (S := rInt.s K place) rfl z3) ea_nil) (by show 1 ≤ 1000; decide)) (imm_flat _) trivial (fun q2 B1 H1 x1 n3 w1 => ?_)
    obtain ⟨xs4, e5, hm⟩ := ob hm
    refine s_for (R := rInt) (oo := (fun (rr : (List Int)) => [CL rInt K rr])) (ρ0 := [place]) (fun (turn8 : Int) (way6 : (List Int)) => ((atI way6 (-(1 : Int))).bind fun t9 =>
cond (!decide (t9 ∈ shut)) (some (.bk way6)) ((atI way6 (-(1 : Int))).bind fun t12 =>
(atI book t12).bind fun t14 =>
(atI way6 (-(1 : Int))).bind fun t16 =>
(atI known t16).bind fun t18 =>
(catO t18 way6).bind fun t22 =>
(m__law_open (t14, t22)).bind fun r23 =>
(appO way6 r23).bind fun way25 =>
some (.nx way25)) : Option (Ctl (List Int) Unit))) (fun (rr : (List Int)) σ' B' => ∃ o_5 : Option V, σ' = [some v0, some v1, some v2, some v3, some (.ref q2), o_5]) (fun zz => finK _ _ zz = some _) w1 (ei_r1 (ev_add (ev_len (ev_var (S := (rLst (rLst rInt)).s K book) rfl (Sv.mono _ x1 z0)) src_p) ev_int) e5) (fun rr σ' B1 B2 e ⟨o_5, hσ⟩ => ⟨o_5, hσ⟩) (fun B2 e => ⟨_, rfl⟩) hm ?_ ?_
    · rintro turn8 rst way6 vx7 σ' Bt7 Ht7 xt7 wt7 ⟨o_5t7, rfl⟩ hx7 hf N hN dn
      dsimp only [gName]
      obtain ⟨ctl, hfx, hbk7, hrt7⟩ := forL_step hf
      have hm := hfx
      obtain ⟨t9, e10, hm⟩ := ob hm
      try dsimp only
      refine s_if wt7 (et_test (ev_notin (ev_ix (ev_var (S := SA q2) rfl rfl) (ev_neg ev_int) (src_o (R := rInt) (xs := way6) 0 rfl rfl) e10) (ev_var (S := (rLst rInt).s K shut) rfl (Sv.mono _ xt7 (Sv.mono _ x1 z1))) src_p)) (fun hb B11 H11 x11 w11 => ?_) (fun hb B11 H11 x11 w11 => ?_)
      · have hm := it hb hm
        have hq_ := Option.some.inj hm
        subst hq_
        exact dn _ _ _ _ (xt7.trans x11) w11 ⟨_, rfl⟩ (hbk7 _ rfl)
      · have hm := ie hb hm
        obtain ⟨t12, e13, hm⟩ := ob hm
        obtain ⟨t14, e15, hm⟩ := ob hm
        obtain ⟨t16, e17, hm⟩ := ob hm
        obtain ⟨t18, e19, hm⟩ := ob hm
        obtain ⟨t22, e20, hm⟩ := ob hm
        obtain ⟨r23, e24, hm⟩ := ob hm
        obtain ⟨way25, e26, hm⟩ := ob hm
        refine s_drop w11 (ev_app 0 rfl (ev_var (S := SA q2) rfl rfl) rfl ((ev_call0 (g := (t14, t22)) (ea_cons (ev_ix (ev_var (S := (rLst (rLst rInt)).s K book) rfl (Sv.mono _ x11 (Sv.mono _ xt7 (Sv.mono _ x1 z0)))) (ev_ix (ev_var (S := SA q2) rfl rfl) (ev_neg ev_int) (src_o (R := rInt) (xs := way6) 0 rfl rfl) e13) src_p e15) (ea_cons (ev_catO (ev_ix (ev_var (S := (rLst (rLst rInt)).s K known) rfl (Sv.mono _ x11 (Sv.mono _ xt7 (Sv.mono _ x1 z2)))) (ev_ix (ev_var (S := SA q2) rfl rfl) (ev_neg ev_int) (src_o (R := rInt) (xs := way6) 0 rfl rfl) e17) src_p e19) (ev_var (S := SA q2) rfl rfl) src_p (src_o (R := rInt) (xs := way6) 0 rfl rfl) e20) ea_nil)) (al_p (fun _ z => z) (al_le sn_s (fun _ z => z) al_nil)) e24).le g_s) rfl e26) (fun B27 H27 x27 w27 => ?_)
        have hq_ := Option.some.inj hm
        subst hq_
        exact hN way25 _ _ _ hfx (x11.trans x27) w27 ⟨_, rfl⟩
    · rintro way6 σ' B28 H28 x28 w28 ⟨o_5k29, rfl⟩ hm
      try dsimp only
      replace hm := finK_nx hm
      refine s_ret w28 (ev_var (S := SA q2) rfl rfl) (fun vv B30 H30 x30 w30 hv => ?_)
      cases (show vv = _ from hv)
      cases hm
      obtain ⟨Bz, xz, w31, rz⟩ := r_o w30 n3 (imm_flat _)
      exact k _ _ _ w31.st w31.ex rz
def m__law_arrow_row : (List Int) × (List Int) → Option (List Int) := fun (card, shut) =>
  finK (fun (row4 : (List Int)) => ((catO row4 [(-(1 : Int))]).bind fun t17 =>
  some t17)) (fun (tt : List Int) => some tt) (forL (fun (place6 : Int) (row4 : (List Int)) => ((appO row4 place6).bind fun row7 =>
  cond (!decide (place6 ∈ shut)) (some (.rt row7)) (some (.nx row7)) : Option (Ctl (List Int) (List Int)))) card ([] : List Int))
def p__law_arrow_row (K : Fg) : Sp := Pr0 K (fun (g : (List Int) × (List Int)) => [(rLst rInt).s K g.1, (rLst rInt).s K g.2]) m__law_arrow_row (rLst rInt)
abbrev N__law_arrow_row : List Str := ["card", "shut", "row", "place"]
theorem sc__law_arrow_row : FnScope N__law_arrow_row ["card", "shut"] (defScope s__law_arrow_row) := ⟨rfl, rfl, rfl, by decide +kernel, rfl, by decide +kernel, by decide +kernel⟩
theorem ok__law_arrow_row {P : Program} {w : World} {K : Fg} {mg : Str → Option Value} {base : Heap} (T : Tx P K mg) {fd : FuncData} (F : FnP K "_law_arrow_row" s__law_arrow_row (He.ga K "_law_arrow_row") fd) : FnOk P w K mg base (L2.CX P w) 1 (He.ga K "_law_arrow_row") fd ["card", "shut"] (p__law_arrow_row K) := by
  have sc := sc__law_arrow_row
  refine F.ok sc (fun vs H Q E h => ?_) (fun cdv A outer s H vs Q E hr h => ?_)
  · obtain ⟨g, z, B, ss, _⟩ := h
    exact (Paired.length ss).trans rfl
  · obtain ⟨⟨card, shut⟩, z, B, ss, ex, hm, k⟩ := h
    obtain ⟨v0, v1, rfl, z0, z1⟩ := pn2 ss
    refine ⟨_, (pss_cons (ps_set (i := 2) sc.nd rfl (Or.inl rfl) (pe_lst pa_nil)) (pss_cons (ps_for (passes_of rfl) rfl (pi_list (pv 0)) (pg_name (i := 3) sc.nd rfl (Or.inl rfl)) (pss_cons (ps_expr (pe_bm PySem.F.plainAttrs_list PySem.F.slot_list_append PySem.F.type_list_append mt_append (pv 2) (pa_cons (pv 3) pa_nil))) (pss_one (ps_if (pt_cmpR (opnin (K := K) rfl) (pv 3) (pv 1) (by rfl)) (pss_one (ps_ret (pv 2))) pss_nil)))) (pss_one (ps_ret (pe_op op_cat (pv 2) (pe_lst (pa_cons (pe_un un_neg pe_int) pa_nil))))))), ?_⟩
    have w := Wd.start (K := K) ex
    unfold m__law_arrow_row at hm
    refine s_ownNil rInt w (fun q2 H1 n3 w1 => ?_)
    try dsimp only
    refine s_for (R := rInt) (oo := (fun (rr : (List Int)) => [CL rInt K rr])) (ρ0 := ([] : List Int)) (fun (place6 : Int) (row4 : (List Int)) => ((appO row4 place6).bind fun row7 =>
cond (!decide (place6 ∈ shut)) (some (.rt row7)) (some (.nx row7)) : Option (Ctl (List Int) (List Int)))) (fun (rr : (List Int)) σ' B' => ∃ o_3 : Option V, σ' = [some v0, some v1, some (.ref q2), o_3]) (fun zz => finK _ _ zz = some _) w1 (ei_list (ev_var (S := (rLst rInt).s K card) rfl z0)) (fun rr σ' B1 B2 e ⟨o_3, hσ⟩ => ⟨o_3, hσ⟩) (fun B2 e => ⟨_, rfl⟩) hm ?_ ?_
    · rintro place6 rst row4 vx5 σ' Bt5 Ht5 xt5 wt5 ⟨o_3t5, rfl⟩ hx5 hf N hN dn
      dsimp only [gName]
      obtain ⟨ctl, hfx, hbk5, hrt5⟩ := forL_step hf
      have hm := hfx
      obtain ⟨row7, e8, hm⟩ := ob hm
      refine s_drop wt5 (ev_app 0 rfl (ev_var (S := SA q2) rfl rfl) rfl (ev_var (S := rInt.s K place6) rfl hx5) rfl e8) (fun B9 H9 x9 w9 => ?_)
      try dsimp only
      refine s_if w9 (et_test (ev_notin (ev_var (S := rInt.s K place6) rfl (Sv.mono _ x9 hx5)) (ev_var (S := (rLst rInt).s K shut) rfl (Sv.mono _ x9 (Sv.mono _ xt5 z1))) src_p)) (fun hb B10 H10 x10 w10 => ?_) (fun hb B10 H10 x10 w10 => ?_)
      · have hm := it hb hm
        refine s_ret w10 (ev_var (S := SA q2) rfl rfl) (fun vv B11 H11 x11 w11 hv => ?_)
        cases (show vv = _ from hv)
        cases hm
        replace hm := hrt5 _ rfl
        cases hm
        obtain ⟨Bz, xz, w12, rz⟩ := r_o w11 n3 (imm_flat _)
        exact k _ _ _ w12.st w12.ex rz
      · have hm := ie hb hm
        have hq_ := Option.some.inj hm
        subst hq_
        exact hN row7 _ _ _ hfx (x9.trans x10) w10 ⟨_, rfl⟩
    · rintro row4 σ' B13 H13 x13 w13 ⟨o_3k14, rfl⟩ hm
      try dsimp only
      replace hm := finK_nx hm
      obtain ⟨t17, e15, hm⟩ := ob hm
      refine s_ret w13 (ev_catO (ev_var (S := SA q2) rfl rfl) (ev_lst (R := rInt) (xs := [(-(1 : Int))]) (ea_cons (ev_neg ev_int) ea_nil) (by show 1 ≤ 1000; decide)) (src_o (R := rInt) (xs := row4) 0 rfl rfl) src_n e15) (fun vv B18 H18 x18 w18 hv => ?_)
      cases hm
      exact k _ _ _ w18.st w18.ex (r_n w13 (imm_flat _) hv)
end G

/-! A1 -/
set_option Elab.async false
set_option linter.all false
set_option maxRecDepth 100000
set_option maxHeartbeats 4000000
namespace G
open PySem PySem.Spec L2 Dl StX
def m__law_bad_book : (List Int) × (List (List Int)) → Option ((Int × (List (List Int))) × (List Int)) := fun (state, book) =>
  (m__law_copy book).bind fun r4 =>
  (m__law_pick (state, (book.length : Int))).bind fun (r12, state14) =>
  (rowO r4 r12).bind fun (j18, row19) =>
  (m__law_pick (state14, (3 : Int))).bind fun (r28, state30) =>
  (cond (decide (r28 = (1 : Int))) ((m__law_stranger (state30, (book.length : Int))).bind fun (r40, state42) =>
  some (state42, r40)) (some (state30, r12))).bind fun (state38, entry39) =>
  (cond ((decide (r28 = (2 : Int))) && (decide ((0 : Int) < (row19.length : Int)))) ((m__law_pick (state38, (row19.length : Int))).bind fun (r51, state53) =>
  (atI row19 r51).bind fun t54 =>
  some (state53, t54)) (some (state38, entry39))).bind fun (state49, entry50) =>
  (m__law_pick (state49, ((row19.length : Int) + (1 : Int)))).bind fun (r61, state63) =>
  (insO row19 r61 entry50).bind fun row64 =>
  (cond (decide ((r12 + (1 : Int)) < (book.length : Int))) ((m__law_pick (state63, (2 : Int))).bind fun (r70, state72) => some ((decide (r70 = (0 : Int))), state72)) (some (false, state63))).bind fun (b73, state75) =>
  (cond b73 ((rowO (r4.set j18 row64) ((book.length : Int) - (1 : Int))).bind fun (j78, row79) =>
  (appO row79 ((book.length : Int) - (1 : Int))).bind fun row88 =>
  some ((r4.set j18 row64).set j78 row88)) (some (r4.set j18 row64))).bind fun wrong77 =>
  some ((r12, wrong77), state75)
def p__law_bad_book (K : Fg) : Sp := Pr1a K (fun (g : (List Int) × (List (List Int))) p => [SA p, (rLst (rLst rInt)).s K g.2]) (fun g => CL rInt K g.1) m__law_bad_book (fun e => CL rInt K e) (rT2 rInt (rLst (rLst rInt)))
abbrev N__law_bad_book : List Str := ["state", "book", "size", "wrong", "at", "card", "kind", "entry", "later"]
theorem sc__law_bad_book : FnScope N__law_bad_book ["state", "book"] (defScope s__law_bad_book) := ⟨rfl, rfl, rfl, by decide +kernel, rfl, by decide +kernel, by decide +kernel⟩
theorem ok__law_bad_book {P : Program} {w : World} {K : Fg} {mg : Str → Option Value} {base : Heap} (T : Tx P K mg) {fd : FuncData} (F : FnP K "_law_bad_book" s__law_bad_book (He.ga K "_law_bad_book") fd) : FnOk P w K mg base (L2.CX P w) 3 (He.ga K "_law_bad_book") fd ["state", "book"] (p__law_bad_book K) := by
  obtain ⟨fd__law_copy, F__law_copy⟩ := T.f__law_copy
  have b__law_copy : Binds K fd__law_copy ["table"] [] := F__law_copy.bindsN fun _ _ _ _ _ _ us hl => match us, hl with | [_], _ => rfl
  have G__law_copy : FnOk P w K mg base (L2.CX P w) 1 (He.ga K "_law_copy") fd__law_copy ["table"] (p__law_copy K) := ok__law_copy T F__law_copy
  obtain ⟨fd__law_pick, F__law_pick⟩ := T.f__law_pick
  have b__law_pick : Binds K fd__law_pick ["state", "many"] [] := F__law_pick.bindsN fun _ _ _ _ _ _ us hl => match us, hl with | [_, _], _ => rfl
  have G__law_pick : FnOk P w K mg base (L2.CX P w) 1 (He.ga K "_law_pick") fd__law_pick ["state", "many"] (p__law_pick K) := ok__law_pick T F__law_pick
  obtain ⟨fd__law_stranger, F__law_stranger⟩ := T.f__law_stranger
  have b__law_stranger : Binds K fd__law_stranger ["state", "size"] [] := F__law_stranger.bindsN fun _ _ _ _ _ _ us hl => match us, hl with | [_, _], _ => rfl
  have G__law_stranger : FnOk P w K mg base (L2.CX P w) 2 (He.ga K "_law_stranger") fd__law_stranger ["state", "size"] (p__law_stranger K) := ok__law_stranger T F__law_stranger
  have sc := sc__law_bad_book
  refine F.ok sc (fun vs H Q E h => ?_) (fun cdv A outer s H vs Q E hr h => ?_)
  · obtain ⟨g, p, z, B, o, ss, _⟩ := h
    exact (Paired.length ss).trans rfl
  · obtain ⟨⟨state, book⟩, p0, z, B, o, ss, ex, h1, h2, h3, h4, hm, k⟩ := h
    obtain ⟨v0, v1, rfl, z0, z1⟩ := pn2 ss
    cases (show _ = V.ref p0 from z0)
    refine ⟨_, (pss_cons (ps_set (i := 2) sc.nd rfl (Or.inl rfl) (pe_callB (clen (K := K) rfl) (by rfl) T.b_len (by decide +kernel) (pa_cons (pv 1) pa_nil))) (pss_cons (ps_set (i := 3) sc.nd rfl (Or.inl rfl) (pe_call G__law_copy (hr.mono (by decide)) (by rfl) T.m__law_copy F__law_copy.kp b__law_copy .nil passL (pa_cons (pv 1) pa_nil))) (pss_cons (ps_set (i := 4) sc.nd rfl (Or.inl rfl) (pe_call G__law_pick (hr.mono (by decide)) (by rfl) T.m__law_pick F__law_pick.kp b__law_pick .nil passL (pa_cons (pv 0) (pa_cons (pv 2) pa_nil)))) (pss_cons (ps_set (i := 5) sc.nd rfl (Or.inl rfl) (pe_ix (ixl (K := K) rfl) (pv 3) (pv 4) (fun _ _ => rfl))) (pss_cons (ps_set (i := 6) sc.nd rfl (Or.inl rfl) (pe_call G__law_pick (hr.mono (by decide)) (by rfl) T.m__law_pick F__law_pick.kp b__law_pick .nil passL (pa_cons (pv 0) (pa_cons pe_int pa_nil)))) (pss_cons (ps_set (i := 7) sc.nd rfl (Or.inl rfl) (pv 4)) (pss_cons (ps_if (pt_cmpR op_eq (pv 6) pe_int (nomark _)) (pss_one (ps_set (i := 7) sc.nd rfl (Or.inl rfl) (pe_call G__law_stranger (hr.mono (by decide)) (by rfl) T.m__law_stranger F__law_stranger.kp b__law_stranger .nil passL (pa_cons (pv 0) (pa_cons (pv 2) pa_nil))))) pss_nil) (pss_cons (ps_if (PW.pt (pw_and (pt_cmpR op_eq (pv 6) pe_int (nomark _)) (pw_and1 (pt_cmpR op_gt (pe_callB (clen (K := K) rfl) (by rfl) T.b_len (by decide +kernel) (pa_cons (pv 5) pa_nil)) pe_int (nomark _))))) (pss_one (ps_set (i := 7) sc.nd rfl (Or.inl rfl) (pe_ix (ixl (K := K) rfl) (pv 5) (pe_call G__law_pick (hr.mono (by decide)) (by rfl) T.m__law_pick F__law_pick.kp b__law_pick .nil passL (pa_cons (pv 0) (pa_cons (pe_callB (clen (K := K) rfl) (by rfl) T.b_len (by decide +kernel) (pa_cons (pv 5) pa_nil)) pa_nil))) (fun _ _ => rfl)))) pss_nil) (pss_cons (ps_expr (pe_bm PySem.F.plainAttrs_list PySem.F.slot_list_insert PySem.F.type_list_insert mt_insert (pv 5) (pa_cons (pe_call G__law_pick (hr.mono (by decide)) (by rfl) T.m__law_pick F__law_pick.kp b__law_pick .nil passL (pa_cons (pv 0) (pa_cons (pe_op op_add (pe_callB (clen (K := K) rfl) (by rfl) T.b_len (by decide +kernel) (pa_cons (pv 5) pa_nil)) pe_int) pa_nil))) (pa_cons (pv 7) pa_nil)))) (pss_cons (ps_if (PW.pt (pw_and (pt_cmpR op_lt (pe_op op_add (pv 4) pe_int) (pv 2) (nomark _)) (pw_and1 (pt_cmpR op_eq (pe_call G__law_pick (hr.mono (by decide)) (by rfl) T.m__law_pick F__law_pick.kp b__law_pick .nil passL (pa_cons (pv 0) (pa_cons pe_int pa_nil))) pe_int (nomark _))))) (pss_cons (ps_set (i := 8) sc.nd rfl (Or.inl rfl) (pe_ix (ixl (K := K) rfl) (pv 3) (pe_op op_sub (pv 2) pe_int) (fun _ _ => rfl))) (pss_one (ps_expr (pe_bm PySem.F.plainAttrs_list PySem.F.slot_list_append PySem.F.type_list_append mt_append (pv 8) (pa_cons (pe_op op_sub (pv 2) pe_int) pa_nil))))) pss_nil) (pss_one (ps_ret (pe_tup (pa_cons (pv 4) (pa_cons (pv 3) pa_nil))))))))))))))), ?_⟩
    have w := Wd.start1 (K := K) ex h1 h2 h3 h4
    unfold m__law_bad_book at hm
    refine s_asg w (ev_len (ev_var (S := (rLst (rLst rInt)).s K book) rfl z1) src_p) (fun w_v2 B1 H1 x1 w1 h3 => ?_)
    obtain ⟨r4, e5, hm⟩ := ob hm
    refine s_ownT w1 (ev_call0 (g := book) (ea_cons (ev_var (S := (rLst (rLst rInt)).s K book) rfl (Sv.mono _ x1 z1)) ea_nil) (al_p (fun _ z => z) al_nil) e5) ⟨csi (imm_flat _), trivial⟩ (fun q7 rs8 B6 H6 x6 hl11 n9 nr10 w6 => ?_)
    obtain ⟨⟨r12, state14⟩, e13, hm⟩ := ob hm
    try dsimp only at hm
    refine s_asg w6 ((ev_call1 (g := (state, (book.length : Int))) 0 rfl (ea_cons (ev_var (S := SA p0) rfl rfl) (ea_cons (ev_var (S := rInt.s K (book.length : Int)) rfl (Sv.mono _ x6 h3)) ea_nil)) rfl (al_p (fun a z => List.mem_of_mem_eraseIdx z) (al_p (fun a z => List.mem_of_mem_eraseIdx z) al_nil)) e13 (csi (imm_flat _))).le g_s) (fun w_v16 B15 H15 x15 w15 h17 => ?_)
    obtain ⟨⟨j18, row19⟩, e20, hm⟩ := ob hm
    obtain ⟨hj22, hr23⟩ := rowO_eq e20
    obtain ⟨q21, hq24⟩ := rs_at hl11 hr23
    try dsimp only at hm
    refine s_asg w15 (ev_row 1 rfl (ev_var (S := SA q7) rfl rfl) (ev_var (S := rInt.s K r12) rfl h17) rfl hl11 hj22 hq24) (fun w_v26 B25 H25 x25 w25 h27 => ?_)
    cases (show w_v26 = _ from h27)
    obtain ⟨⟨r28, state30⟩, e29, hm⟩ := ob hm
    try dsimp only at hm
    refine s_asg w25 ((ev_call1 (g := (state14, (3 : Int))) 0 rfl (ea_cons (ev_var (S := SA p0) rfl rfl) (ea_cons ev_int ea_nil)) rfl (al_p (fun a z => List.mem_of_mem_eraseIdx z) (al_p (fun a z => List.mem_of_mem_eraseIdx z) al_nil)) e29 (csi (imm_flat _))).le g_s) (fun w_v32 B31 H31 x31 w31 h33 => ?_)
    refine s_asg w31 (ev_var (S := rInt.s K r12) rfl (Sv.mono _ x31 (Sv.mono _ x25 h17))) (fun w_v35 B34 H34 x34 w34 h36 => ?_)
    obtain ⟨rj, hA103, hm⟩ := ob hm
    refine s_ifJ (ks2 := (p0 :: q7 :: rs8)) (oo := (fun (rr : (List Int) × Int) => (CL rInt K rr.1 :: CO rs8 :: List.map (CL rInt K) r4))) (fun (rr : (List Int) × Int) σ' B' => ∃ v_7 : V, ∃ o_8 : Option V, σ' = [some (.ref p0), some v1, some w_v2, some (.ref q7), some w_v16, some (.ref q21), some w_v32, some v_7, o_8] ∧ (rInt.s K rr.2).p v_7 B') (fun rr => rr = rj) w34 (et_test (ev_eqI (ev_var (S := rInt.s K r28) rfl (Sv.mono _ x34 h33)) ev_int)) ?_ (fun hb B37 H37 x37 w37 N hN => ?_) (fun hb B37 H37 x37 w37 N hN => ?_)
    · rintro rr σ' B46 H46 x46 w46 ⟨v_7k47, o_8k47, rfl, hj0k47⟩ hq
      subst hq
      obtain ⟨state38, entry39⟩ := rr
      try dsimp only
      obtain ⟨rj, hA102, hm⟩ := ob hm
      refine s_ifJ (ks2 := (p0 :: q7 :: rs8)) (oo := (fun (rr : (List Int) × Int) => (CL rInt K rr.1 :: CO rs8 :: List.map (CL rInt K) r4))) (fun (rr : (List Int) × Int) σ' B' => ∃ v_7 : V, ∃ o_8 : Option V, σ' = [some (.ref p0), some v1, some w_v2, some (.ref q7), some w_v16, some (.ref q21), some w_v32, some v_7, o_8] ∧ (rInt.s K rr.2).p v_7 B') (fun rr => rr = rj) w46 (et_and (et_test (ev_eqI (ev_var (S := rInt.s K r28) rfl (Sv.mono _ x46 (Sv.mono _ x34 h33))) ev_int)) (fun _ => (et_test (ev_gt (ev_len (ev_var (S := SA q21) rfl rfl) (src_o (R := rInt) (xs := row19) (j18 + 2) (by simpa using hq24) (show _ = some (CL rInt K row19) by simp [hr23, rInt, rTag, rBool, -List.map_set]))) ev_int))) (fun _ => rfl)) ?_ (fun hb B48 H48 x48 w48 N hN => ?_) (fun hb B48 H48 x48 w48 N hN => ?_)
      · rintro rr σ' B59 H59 x59 w59 ⟨v_7k60, o_8k60, rfl, hj0k60⟩ hq
        subst hq
        obtain ⟨state49, entry50⟩ := rr
        try dsimp only
        obtain ⟨⟨r61, state63⟩, e62, hm⟩ := ob hm
        try dsimp only at hm
        obtain ⟨row64, e65, hm⟩ := ob hm
        refine s_drop w59 (ev_ins (j18 + 2) (by simpa using hq24) (ev_var (S := SA q21) rfl rfl) (show _ = some (CL rInt K row19) by simp [hr23, rInt, rTag, rBool, -List.map_set]) ((ev_call1 (g := (state49, ((row19.length : Int) + (1 : Int)))) 0 rfl (ea_cons (ev_var (S := SA p0) rfl rfl) (ea_cons (ev_add (ev_len (ev_var (S := SA q21) rfl rfl) (src_o (R := rInt) (xs := row19) (j18 + 2) (by simpa using hq24) (show _ = some (CL rInt K row19) by simp [hr23, rInt, rTag, rBool, -List.map_set]))) ev_int) ea_nil)) rfl (al_p (fun a z => List.mem_of_mem_eraseIdx z) (al_p (fun a z => List.mem_of_mem_eraseIdx z) al_nil)) e62 (csi (imm_flat _))).le g_s) (ev_var (S := rInt.s K entry50) rfl hj0k60) (show _ = some (CL rInt K row19) by simp [hr23, rInt, rTag, rBool, -List.map_set]) e65) (fun B66 H66 x66 w66 => ?_)
        have w67 := Wd.eq (os' := (CL rInt K state63 :: CO rs8 :: List.map (CL rInt K) (r4.set j18 row64))) w66 (by simp [List.map_set, rInt, rTag, rBool])
        have hl68 := len_set (j := j18) (y := row64) hl11
        have hr69 := set_at (y := row64) hr23
        obtain ⟨⟨b73, state75⟩, e74, hm⟩ := ob hm
        try dsimp only at hm
        obtain ⟨rj, hA101, hm⟩ := ob hm
        refine s_ifJ (ks2 := (p0 :: q7 :: rs8)) (oo := (fun (rr : (List (List Int))) => (CL rInt K state75 :: CO rs8 :: List.map (CL rInt K) rr))) (fun (rr : (List (List Int))) σ' B' => ∃ o_5 : Option V, ∃ o_8 : Option V, σ' = [some (.ref p0), some v1, some w_v2, some (.ref q7), some w_v16, o_5, some w_v32, some v_7k60, o_8] ∧ rs8.length = rr.length) (fun rr => rr = rj) w67 (et_andO (o3 := (CL rInt K state75 :: CO rs8 :: List.map (CL rInt K) (r4.set j18 row64))) (b := b73) (et_test (ev_lt (ev_add (ev_var (S := rInt.s K r12) rfl (Sv.mono _ x66 (Sv.mono _ x59 (Sv.mono _ x46 (Sv.mono _ x34 (Sv.mono _ x31 (Sv.mono _ x25 h17))))))) ev_int) (ev_var (S := rInt.s K (book.length : Int)) rfl (Sv.mono _ x66 (Sv.mono _ x59 (Sv.mono _ x46 (Sv.mono _ x34 (Sv.mono _ x31 (Sv.mono _ x25 (Sv.mono _ x15 (Sv.mono _ x6 h3))))))))))) (fun hc => by have e74 := it hc e74; obtain ⟨⟨r70, state72⟩, e71, e74⟩ := ob e74; try dsimp only at e74; have hs0_ := Option.some.inj e74; obtain ⟨hq0_, hs1_⟩ := Prod.mk.inj hs0_; subst hq0_; subst hs1_; exact (et_test (ev_eqI ((ev_call1 (g := (state63, (2 : Int))) 0 rfl (ea_cons (ev_var (S := SA p0) rfl rfl) (ea_cons ev_int ea_nil)) rfl (al_p (fun a z => List.mem_of_mem_eraseIdx z) (al_p (fun a z => List.mem_of_mem_eraseIdx z) al_nil)) e71 (csi (imm_flat _))).le g_s) ev_int))) (fun hc => by have e74 := ie hc e74; cases e74; exact ⟨rfl, rfl⟩)) ?_ (fun hb B76 H76 x76 w76 N hN => ?_) (fun hb B76 H76 x76 w76 N hN => ?_)
        · rintro wrong77 σ' B94 H94 x94 w94 ⟨o_5k95, o_8k95, rfl, hj0k95⟩ hq
          subst hq
          try dsimp only
          obtain ⟨Bz97, xz98, w96, rz99⟩ := r_grp (ks := [p0]) (os := [CL rInt K state75]) w94 n9 nr10 rfl
          refine s_ret w96 (ev_T2 (ea_cons (ev_var (S := rInt.s K r12) rfl (Sv.mono _ xz98 (Sv.mono _ x94 (Sv.mono _ x66 (Sv.mono _ x59 (Sv.mono _ x46 (Sv.mono _ x34 (Sv.mono _ x31 (Sv.mono _ x25 h17))))))))) (ea_cons (ev_var (S := (rLst (rLst rInt)).s K wrong77) rfl (llg_s _ _ rz99)) ea_nil))) (fun vv B100 H100 x100 w100 hv => ?_)
          cases hm
          obtain ⟨oz, gz1, _, gz3, gz4⟩ := w100.cell.get (i := 0) rfl rfl
          exact k _ _ _ oz w100.st w100.ex gz1 gz3 gz4 hv
        · have hm := it hb hA101
          obtain ⟨⟨j78, row79⟩, e80, hm⟩ := ob hm
          obtain ⟨hj82, hr83⟩ := rowO_eq e80
          obtain ⟨q81, hq84⟩ := rs_at hl68 hr83
          try dsimp only at hm
          refine s_asg w76 (ev_row 1 rfl (ev_var (S := SA q7) rfl rfl) (ev_sub (ev_var (S := rInt.s K (book.length : Int)) rfl (Sv.mono _ x76 (Sv.mono _ x66 (Sv.mono _ x59 (Sv.mono _ x46 (Sv.mono _ x34 (Sv.mono _ x31 (Sv.mono _ x25 (Sv.mono _ x15 (Sv.mono _ x6 h3)))))))))) ev_int) rfl hl68 hj82 hq84) (fun w_v86 B85 H85 x85 w85 h87 => ?_)
          cases (show w_v86 = _ from h87)
          obtain ⟨row88, e89, hm⟩ := ob hm
          refine s_drop w85 (ev_app (j78 + 2) (by simpa using hq84) (ev_var (S := SA q81) rfl rfl) (show _ = some (CL rInt K row79) by simp [hr83, rInt, rTag, rBool, -List.map_set]) (ev_sub (ev_var (S := rInt.s K (book.length : Int)) rfl (Sv.mono _ x85 (Sv.mono _ x76 (Sv.mono _ x66 (Sv.mono _ x59 (Sv.mono _ x46 (Sv.mono _ x34 (Sv.mono _ x31 (Sv.mono _ x25 (Sv.mono _ x15 (Sv.mono _ x6 h3))))))))))) ev_int) (show _ = some (CL rInt K row79) by simp [hr83, rInt, rTag, rBool, -List.map_set]) e89) (fun B90 H90 x90 w90 => ?_)
          have w91 := Wd.eq (os' := (CL rInt K state75 :: CO rs8 :: List.map (CL rInt K) ((r4.set j18 row64).set j78 row88))) w90 (by simp [List.map_set, rInt, rTag, rBool])
          have hl92 := len_set (j := j78) (y := row88) hl68
          have hr93 := set_at (y := row88) hr83
          have hq_ := Option.some.inj hm
          subst hq_
          exact hN ((r4.set j18 row64).set j78 row88) _ _ _ ((x76.trans x85).trans x90) w91 ⟨_, _, rfl, hl92⟩ rfl
        · have hm := ie hb hA101
          have hq_ := Option.some.inj hm
          subst hq_
          exact hN (r4.set j18 row64) _ _ _ x76 w76 ⟨_, _, rfl, hl68⟩ rfl
      · have hm := it hb hA102
        obtain ⟨⟨r51, state53⟩, e52, hm⟩ := ob hm
        try dsimp only at hm
        obtain ⟨t54, e55, hm⟩ := ob hm
        refine s_asg w48 (ev_ix (ev_var (S := SA q21) rfl rfl) ((ev_call1 (g := (state38, (row19.length : Int))) 0 rfl (ea_cons (ev_var (S := SA p0) rfl rfl) (ea_cons (ev_len (ev_var (S := SA q21) rfl rfl) (src_o (R := rInt) (xs := row19) (j18 + 2) (by simpa using hq24) (show _ = some (CL rInt K row19) by simp [hr23, rInt, rTag, rBool, -List.map_set]))) ea_nil)) rfl (al_p (fun a z => List.mem_of_mem_eraseIdx z) (al_p (fun a z => List.mem_of_mem_eraseIdx z) al_nil)) e52 (csi (imm_flat _))).le g_s) (src_o (R := rInt) (xs := row19) (j18 + 2) (by simpa using hq24) (show _ = some (CL rInt K row19) by simp [hr23, rInt, rTag, rBool, -List.map_set])) e55) (fun w_v57 B56 H56 x56 w56 h58 => ?_)
        have hq_ := Option.some.inj hm
        subst hq_
        exact hN (state53, t54) _ _ _ (x48.trans x56) w56 ⟨w_v57, _, rfl, h58⟩ rfl
      · have hm := ie hb hA102
        have hq_ := Option.some.inj hm
        subst hq_
        exact hN (state38, entry39) _ _ _ x48 w48 ⟨v_7k47, _, rfl, (Sv.mono _ x48 hj0k47)⟩ rfl
    · have hm := it hb hA103
      obtain ⟨⟨r40, state42⟩, e41, hm⟩ := ob hm
      try dsimp only at hm
      refine s_asg w37 ((ev_call1 (g := (state30, (book.length : Int))) 0 rfl (ea_cons (ev_var (S := SA p0) rfl rfl) (ea_cons (ev_var (S := rInt.s K (book.length : Int)) rfl (Sv.mono _ x37 (Sv.mono _ x34 (Sv.mono _ x31 (Sv.mono _ x25 (Sv.mono _ x15 (Sv.mono _ x6 h3))))))) ea_nil)) rfl (al_p (fun a z => List.mem_of_mem_eraseIdx z) (al_p (fun a z => List.mem_of_mem_eraseIdx z) al_nil)) e41 (csi (imm_flat _))).le g_s) (fun w_v44 B43 H43 x43 w43 h45 => ?_)
      have hq_ := Option.some.inj hm
      subst hq_
      exact hN (state42, r40) _ _ _ (x37.trans x43) w43 ⟨w_v44, _, rfl, h45⟩ rfl
    · have hm := ie hb hA103
      have hq_ := Option.some.inj hm
      subst hq_
      exact hN (state30, r12) _ _ _ x37 w37 ⟨w_v35, _, rfl, (Sv.mono _ x37 h36)⟩ rfl
def m__law_news : (List Int) × (List Int) × Int → Option ((List (List Int)) × (List Int)) := fun (state, shut, size) =>
  (rngO (0 : Int) size).bind fun xs1 =>
  (lcO (fun (place : Int) (rr : (List Int)) => match rr with | state => some (true, state)) (fun (place : Int) (rr : (List Int)) => match rr with | state => (m__law_some (state, shut)).bind fun (r3, state5) => (m__law_shuffled (state5, r3)).bind fun (r6, state8) => some (r6, state8)) xs1 state).bind fun (ys9, state11) =>
  some (ys9, state11)
def p__law_news (K : Fg) : Sp := Pr1 K (fun (g : (List Int) × (List Int) × Int) p => [SA p, (rLst rInt).s K g.2.1, rInt.s K g.2.2]) (fun g => CL rInt K g.1) m__law_news (fun e => CL rInt K e) rLL
abbrev N__law_news : List Str := ["state", "shut", "size", "place"]
theorem sc__law_news : FnScope N__law_news ["state", "shut", "size"] (defScope s__law_news) := ⟨rfl, rfl, rfl, by decide +kernel, rfl, by decide +kernel, by decide +kernel⟩
theorem ok__law_news {P : Program} {w : World} {K : Fg} {mg : Str → Option Value} {base : Heap} (T : Tx P K mg) {fd : FuncData} (F : FnP K "_law_news" s__law_news (He.ga K "_law_news") fd) : FnOk P w K mg base (L2.CX P w) 3 (He.ga K "_law_news") fd ["state", "shut", "size"] (p__law_news K) := by
  obtain ⟨fd__law_shuffled, F__law_shuffled⟩ := T.f__law_shuffled
  have b__law_shuffled : Binds K fd__law_shuffled ["state", "row"] [] := F__law_shuffled.bindsN fun _ _ _ _ _ _ us hl => match us, hl with | [_, _], _ => rfl
  have G__law_shuffled : FnOk P w K mg base (L2.CX P w) 2 (He.ga K "_law_shuffled") fd__law_shuffled ["state", "row"] (p__law_shuffled K) := ok__law_shuffled T F__law_shuffled
  obtain ⟨fd__law_some, F__law_some⟩ := T.f__law_some
  have b__law_some : Binds K fd__law_some ["state", "row"] [] := F__law_some.bindsN fun _ _ _ _ _ _ us hl => match us, hl with | [_, _], _ => rfl
  have G__law_some : FnOk P w K mg base (L2.CX P w) 2 (He.ga K "_law_some") fd__law_some ["state", "row"] (p__law_some K) := ok__law_some T F__law_some
  have sc := sc__law_news
  refine F.ok sc (fun vs H Q E h => ?_) (fun cdv A outer s H vs Q E hr h => ?_)
  · obtain ⟨g, p, z, B, o, ss, _⟩ := h
    exact (Paired.length ss).trans rfl
  · obtain ⟨⟨state, shut, size⟩, p0, z, B, o, ss, ex, h1, h2, h3, h4, hm, k⟩ := h
    obtain ⟨v0, v1, v2, rfl, z0, z1, z2⟩ := pn3 ss
    cases (show _ = V.ref p0 from z0)
    refine ⟨_, (pss_one (ps_ret (pe_lc (own := [("place", 3)]) (g := (gName 3)) (by rfl) sc.nd (pi_range1 (by rfl) T.b_range (pa_cons (pv 2) pa_nil)) (blkOk_by (own := [("place", 3)]) (N := N__law_news) (sc := defScope s__law_news) (by decide +kernel)) (fun _ _ _ _ _ => pg_name (i := 3) sc.nd rfl (Or.inl rfl)) (fun _ _ _ _ _ => pts_nil) (fun _ _ _ _ _ => (pe_call G__law_shuffled (hr.mono (by decide)) (by rfl) T.m__law_shuffled F__law_shuffled.kp b__law_shuffled .nil passL (pa_cons (pv 0) (pa_cons (pe_call G__law_some (hr.mono (by decide)) (by rfl) T.m__law_some F__law_some.kp b__law_some .nil passL (pa_cons (pv 0) (pa_cons (pv 1) pa_nil))) pa_nil))))))), ?_⟩
    have w := Wd.start1 (K := K) ex h1 h2 h3 h4
    unfold m__law_news at hm
    obtain ⟨xs1, e2, hm⟩ := ob hm
    obtain ⟨⟨ys9, state11⟩, e10, hm⟩ := ob hm
    try dsimp only at hm
    refine s_ret w (ev_lcF (R := rInt) (oo := (fun (rr : (List Int)) => [CL rInt K rr])) (fun (place : Int) (rr : (List Int)) => match rr with | state => some (true, state)) (fun (place : Int) (rr : (List Int)) => match rr with | state => (m__law_some (state, shut)).bind fun (r3, state5) => (m__law_shuffled (state5, r3)).bind fun (r6, state8) => some (r6, state8)) (lcT rInt K _ 3 [3]) (ei_r1 (ev_var (S := rInt.s K size) rfl z2) e2) e10 (lcT_mono _ _ _ _ _) (lcT_name rfl 3 [3] (by intro x; rfl)) (fun place state bb r1 σ2 B' pD acc ht eB ⟨vx, hσ, hx⟩ => by cases ht; exact et_yes) (fun Hh place state yy r1 σ2 B' pD acc he eB ⟨vx, hσ, hx⟩ => by subst hσ; obtain ⟨⟨r3, state5⟩, e4, he⟩ := ob he; try dsimp only at he; obtain ⟨⟨r6, state8⟩, e7, he⟩ := ob he; try dsimp only at he; cases he; exact ((ev_call1 (g := (state5, r3)) 1 rfl (ea_cons (ev_var (S := SA p0) rfl rfl) (ea_cons (ev_call1 (g := (state, shut)) 1 rfl (ea_cons (ev_var (S := SA p0) rfl rfl) (ea_cons (ev_var (S := (rLst rInt).s K shut) rfl (Sv.mono _ eB z1)) ea_nil)) rfl (al_p (fun a z => List.mem_of_mem_eraseIdx z) (al_p (fun a z => List.mem_of_mem_eraseIdx z) al_nil)) e4 (csi (imm_flat _))) ea_nil)) rfl (al_p (fun a z => List.mem_of_mem_eraseIdx z) (al_le g_s (fun a z => List.mem_of_mem_eraseIdx z) al_nil)) e7 (csi (imm_flat _))).le g_sn))) (fun vv B12 H12 x12 w12 hv => ?_)
    cases hm
    obtain ⟨oz, gz1, _, gz3, gz4⟩ := w12.cell.get (i := 0) rfl rfl
    exact k _ _ _ oz w12.st w12.ex gz1 gz3 gz4 (r_f w hv)
def m__law_arrows_right : (List (List Int)) × (List Int) × (List Int) → Option (Bool) := fun (book, kept, shut) =>
  (m__law_copy book).bind fun r1 =>
  (rngO (0 : Int) (book.length : Int)).bind fun xs9 =>
  (lcO (fun (place : Int) (rr : Unit) => match rr with | () => some (true, ())) (fun (place : Int) (rr : Unit) => match rr with | () => (cond (decide (place ∈ shut)) ((atI book place).bind fun t11 => (m__law_arrow_row (t11, shut)).bind fun r13 => some r13) (some ([] : List Int))).bind fun t15 => some (t15, ())) xs9 ()).bind fun (ys17, _) =>
  (rngO (0 : Int) (2 : Int)).bind fun xs22 =>
  finK (fun (_ : Unit) => (some true)) (fun (tt : Bool) => some tt) (forL (fun (turn25 : Int) (_ : Unit) => ((okO (m_arrows (r1, kept))).bind fun r26 =>
  (m__law_same_rows (r26, ys17)).bind fun r32 =>
  cond ((!r32) || ((!decide (r1 = book)) || (!decide (kept = kept)))) (some (.rt false)) ((spoilO r26).bind fun u36 =>
  some (.nx ())) : Option (Ctl Unit Bool))) xs22 ())
def p__law_arrows_right (K : Fg) : Sp := Pr0 K (fun (g : (List (List Int)) × (List Int) × (List Int)) => [(rLst (rLst rInt)).s K g.1, (rLst rInt).s K g.2.1, (rLst rInt).s K g.2.2]) m__law_arrows_right rBool
abbrev N__law_arrows_right : List Str := ["book", "kept", "shut", "given", "passed", "due", "place", "turn", "told", "row"]
theorem sc__law_arrows_right : FnScope N__law_arrows_right ["book", "kept", "shut"] (defScope s__law_arrows_right) := ⟨rfl, rfl, rfl, by decide +kernel, rfl, by decide +kernel, by decide +kernel⟩
theorem ok__law_arrows_right {P : Program} {w : World} {K : Fg} {mg : Str → Option Value} {base : Heap} (T : Tx P K mg) {fd : FuncData} (F : FnP K "_law_arrows_right" s__law_arrows_right (He.ga K "_law_arrows_right") fd) : FnOk P w K mg base (L2.CX P w) 4 (He.ga K "_law_arrows_right") fd ["book", "kept", "shut"] (p__law_arrows_right K) := by
  obtain ⟨fd__law_arrow_row, F__law_arrow_row⟩ := T.f__law_arrow_row
  have b__law_arrow_row : Binds K fd__law_arrow_row ["card", "shut"] [] := F__law_arrow_row.bindsN fun _ _ _ _ _ _ us hl => match us, hl with | [_, _], _ => rfl
  have G__law_arrow_row : FnOk P w K mg base (L2.CX P w) 1 (He.ga K "_law_arrow_row") fd__law_arrow_row ["card", "shut"] (p__law_arrow_row K) := ok__law_arrow_row T F__law_arrow_row
  obtain ⟨fd__law_copy, F__law_copy⟩ := T.f__law_copy
  have b__law_copy : Binds K fd__law_copy ["table"] [] := F__law_copy.bindsN fun _ _ _ _ _ _ us hl => match us, hl with | [_], _ => rfl
  have G__law_copy : FnOk P w K mg base (L2.CX P w) 1 (He.ga K "_law_copy") fd__law_copy ["table"] (p__law_copy K) := ok__law_copy T F__law_copy
  obtain ⟨fd__law_same_rows, F__law_same_rows⟩ := T.f__law_same_rows
  have b__law_same_rows : Binds K fd__law_same_rows ["told", "due"] [] := F__law_same_rows.bindsN fun _ _ _ _ _ _ us hl => match us, hl with | [_, _], _ => rfl
  have G__law_same_rows : FnOk P w K mg base (L2.CX P w) 3 (He.ga K "_law_same_rows") fd__law_same_rows ["told", "due"] (p__law_same_rows K) := ok__law_same_rows T F__law_same_rows
  obtain ⟨fd_arrows, F_arrows⟩ := T.f_arrows
  have b_arrows : Binds K fd_arrows ["book", "kept"] [] := F_arrows.bindsN fun _ _ _ _ _ _ us hl => match us, hl with | [_, _], _ => rfl
  have G_arrows : FnOk P w K mg base (L2.CX P w) 3 (He.ga K "arrows") fd_arrows ["book", "kept"] (p_arrows K) := ok_arrows T F_arrows
  have sc := sc__law_arrows_right
  refine F.ok sc (fun vs H Q E h => ?_) (fun cdv A outer s H vs Q E hr h => ?_)
  · obtain ⟨g, z, B, ss, _⟩ := h
    exact (Paired.length ss).trans rfl
  · obtain ⟨⟨book, kept, shut⟩, z, B, ss, ex, hm, k⟩ := h
    obtain ⟨v0, v1, v2, rfl, z0, z1, z2⟩ := pn3 ss
    have hu := hr.units
    refine ⟨_, (pss_cons (ps_set (i := 3) sc.nd rfl (Or.inl rfl) (pe_call G__law_copy (hr.mono (by decide)) (by rfl) T.m__law_copy F__law_copy.kp b__law_copy .nil passL (pa_cons (pv 0) pa_nil))) (pss_cons (ps_set (i := 4) sc.nd rfl (Or.inl rfl) (pe_callTy (clst (K := K) rfl) (by rfl) T.b_list (by decide +kernel) (pa_cons (pv 1) pa_nil))) (pss_cons (ps_setLc (i := 5) (own := [("place", 6)]) (g := (gName 6)) (by rfl) sc.nd rfl rfl (sw_true rfl rfl rfl (by decide +kernel)) (pi_range1 (by rfl) T.b_range (pa_cons (pe_callB (clen (K := K) rfl) (by rfl) T.b_len (by decide +kernel) (pa_cons (pv 0) pa_nil)) pa_nil)) (blkOk_by (own := [("place", 6)]) (N := N__law_arrows_right) (sc := defScope s__law_arrows_right) (by decide +kernel)) (fun _ _ _ _ _ => pg_name (i := 6) sc.nd rfl (Or.inl rfl)) (fun _ _ _ _ _ => pts_nil) (fun _ _ _ _ _ => (pe_ifExp (pt_cmpR (opin (K := K) rfl) (pv 6) (pv 2) (by rfl)) (pe_call G__law_arrow_row (hr.mono (by decide)) (by rfl) T.m__law_arrow_row F__law_arrow_row.kp b__law_arrow_row .nil passL (pa_cons (pe_ix (ixl (K := K) rfl) (pv 0) (pv 6) (fun _ _ => rfl)) (pa_cons (pv 2) pa_nil))) (pe_lst pa_nil)))) (pss_cons (ps_for (passes_of rfl) rfl (pi_range1 (by rfl) T.b_range (pa_cons pe_int pa_nil)) (pg_name (i := 7) sc.nd rfl (Or.inl rfl)) (pss_cons (ps_set (i := 8) sc.nd rfl (Or.inl rfl) (pe_call G_arrows (hr.mono (by decide)) (by rfl) T.m_arrows F_arrows.kp b_arrows .nil passL (pa_cons (pv 3) (pa_cons (pv 4) pa_nil)))) (pss_cons (ps_if (PW.pt (pw_or (pt_not (pt_val (pe_call G__law_same_rows (hr.mono (by decide)) (by rfl) T.m__law_same_rows F__law_same_rows.kp b__law_same_rows .nil passL (pa_cons (pv 8) (pa_cons (pv 5) pa_nil))))) (pw_or (pt_cmpR (opneD (K := K) rfl hu) (pv 3) (pv 0) (nomark _)) (pw_or1 (pt_cmpR (opneD (K := K) rfl hu) (pv 4) (pv 1) (nomark _)))))) (pss_one (ps_ret pe_bl)) pss_nil) (pss_cons (ps_for (passes_of rfl) rfl (pi_list (pv 8)) (pg_name (i := 9) sc.nd rfl (Or.inl rfl)) (pss_one (ps_expr (pe_bm PySem.F.plainAttrs_list PySem.F.slot_list_append PySem.F.type_list_append mt_append (pv 9) (pa_cons pe_int pa_nil))))) (pss_one (ps_expr (pe_bm PySem.F.plainAttrs_list PySem.F.slot_list_append PySem.F.type_list_append mt_append (pv 8) (pa_cons (pe_lst pa_nil) pa_nil)))))))) (pss_one (ps_ret pe_bl)))))), ?_⟩
    have w := Wd.start (K := K) ex
    unfold m__law_arrows_right at hm
    obtain ⟨r1, e2, hm⟩ := ob hm
    refine s_asg w ((ev_call0 (g := book) (ea_cons (ev_var (S := (rLst (rLst rInt)).s K book) rfl z0) ea_nil) (al_p (fun _ z => z) al_nil) e2).le llg_s) (fun w_v4 B3 H3 x3 w3 h5 => ?_)
    refine s_asg w3 ((ev_list (ev_var (S := (rLst rInt).s K kept) rfl (Sv.mono _ x3 z1)) src_p).le sn_s) (fun w_v7 B6 H6 x6 w6 h8 => ?_)
    obtain ⟨xs9, e10, hm⟩ := ob hm
    obtain ⟨⟨ys17, _⟩, e18, hm⟩ := ob hm
    try dsimp only at hm
    refine s_asg w6 ((ev_lc (R := rInt) (R' := (rLst rInt)) (oo := (fun (rr : Unit) => [])) (fun (place : Int) (rr : Unit) => match rr with | () => some (true, ())) (fun (place : Int) (rr : Unit) => match rr with | () => (cond (decide (place ∈ shut)) ((atI book place).bind fun t11 => (m__law_arrow_row (t11, shut)).bind fun r13 => some r13) (some ([] : List Int))).bind fun t15 => some (t15, ())) (lcT rInt K _ 6 [6]) (ei_r1 (ev_len (ev_var (S := (rLst (rLst rInt)).s K book) rfl (Sv.mono _ x6 (Sv.mono _ x3 z0))) src_p) e10) e18 (lcT_mono _ _ _ _ _) (lcT_name rfl 6 [6] (by intro x; rfl)) (fun place rr bb r1 σ2 B' pD acc ht eB ⟨vx, hσ, hx⟩ => by cases ht; exact et_yes) (fun place rr yy r1 σ2 B' pD acc he eB ⟨vx, hσ, hx⟩ => by subst hσ; obtain ⟨t15, e16, he⟩ := ob he; cases he; exact ((ev_if (S := SN rInt K _ _) (et_test (ev_in (ev_var (S := rInt.s K place) rfl hx) (ev_var (S := (rLst rInt).s K shut) rfl (Sv.mono _ eB (Sv.mono _ x6 (Sv.mono _ x3 z2)))) src_p)) (fun hc => by have e16 := it hc e16; obtain ⟨t11, e12, e16⟩ := ob e16; obtain ⟨r13, e14, e16⟩ := ob e16; have hq_ := Option.some.inj e16; subst hq_; exact ((ev_call0 (g := (t11, shut)) (ea_cons (ev_ix (ev_var (S := (rLst (rLst rInt)).s K book) rfl (Sv.mono _ eB (Sv.mono _ x6 (Sv.mono _ x3 z0)))) (ev_var (S := rInt.s K place) rfl hx) src_p e12) (ea_cons (ev_var (S := (rLst rInt).s K shut) rfl (Sv.mono _ eB (Sv.mono _ x6 (Sv.mono _ x3 z2)))) ea_nil)) (al_p (fun _ z => z) (al_p (fun _ z => z) al_nil)) e14).le g_sn)) (fun hc => by have e16 := ie hc e16; have hq_ := Option.some.inj e16; subst hq_; exact (ev_lst (R := rInt) (xs := []) ea_nil (by decide)))).le sn_s))).le sn_s) (fun w_v20 B19 H19 x19 w19 h21 => ?_)
    obtain ⟨xs22, e23, hm⟩ := ob hm
    refine s_for (R := rInt) (oo := (fun (rr : Unit) => [])) (ρ0 := ()) (fun (turn25 : Int) (_ : Unit) => ((okO (m_arrows (r1, kept))).bind fun r26 =>
(m__law_same_rows (r26, ys17)).bind fun r32 =>
cond ((!r32) || ((!decide (r1 = book)) || (!decide (kept = kept)))) (some (.rt false)) ((spoilO r26).bind fun u36 =>
some (.nx ())) : Option (Ctl Unit Bool))) (fun (_ : Unit) σ' B' => ∃ o_6 : Option V, ∃ o_7 : Option V, ∃ o_8 : Option V, ∃ o_9 : Option V, σ' = [some v0, some v1, some v2, some w_v4, some w_v7, some w_v20, o_6, o_7, o_8, o_9]) (fun zz => finK _ _ zz = some _) w19 (ei_r1 ev_int e23) (fun rr σ' B1 B2 e ⟨o_6, o_7, o_8, o_9, hσ⟩ => ⟨o_6, o_7, o_8, o_9, hσ⟩) (fun B2 e => ⟨_, _, _, _, rfl⟩) hm ?_ ?_
    · rintro turn25 rst rr vx24 σ' Bt24 Ht24 xt24 wt24 ⟨o_6t24, o_7t24, o_8t24, o_9t24, rfl⟩ hx24 hf N hN dn
      dsimp only [gName]
      obtain ⟨ctl, hfx, hbk24, hrt24⟩ := forL_step hf
      have hm := hfx
      obtain ⟨r26, e27, hm⟩ := ob hm
      refine s_asg wt24 (ev_callXok (g := (r1, kept)) (ea_cons (ev_var (S := (rLst (rLst rInt)).s K r1) rfl (Sv.mono _ xt24 (Sv.mono _ x19 (Sv.mono _ x6 h5)))) (ea_cons (ev_var (S := (rLst rInt).s K kept) rfl (Sv.mono _ xt24 (Sv.mono _ x19 h8))) ea_nil)) (al_p (fun _ z => z) (al_p (fun _ z => z) al_nil)) (okO_eq e27)) (fun w_v29 B28 H28 x28 w28 h30 => ?_)
      obtain ⟨r32, e33, hm⟩ := ob hm
      try dsimp only
      refine s_if w28 (et_or (et_not (et_B ((ev_call0 (g := (r26, ys17)) (ea_cons ((ev_var (S := rLL.g K Ht24 r26) rfl h30).le g_s) (ea_cons (ev_var (S := (rLst (rLst rInt)).s K ys17) rfl (Sv.mono _ x28 (Sv.mono _ xt24 h21))) ea_nil)) (al_p (fun _ z => z) (al_p (fun _ z => z) al_nil)) e33).le g_s))) (fun _ => (et_or (et_test (ev_neD (dqLst (dqLst dqInt)) (ev_var (S := (rLst (rLst rInt)).s K r1) rfl (Sv.mono _ x28 (Sv.mono _ xt24 (Sv.mono _ x19 (Sv.mono _ x6 h5))))) (ev_var (S := (rLst (rLst rInt)).s K book) rfl (Sv.mono _ x28 (Sv.mono _ xt24 (Sv.mono _ x19 (Sv.mono _ x6 (Sv.mono _ x3 z0)))))) srd_s srd_s)) (fun _ => (et_test (ev_neD (dqLst dqInt) (ev_var (S := (rLst rInt).s K kept) rfl (Sv.mono _ x28 (Sv.mono _ xt24 (Sv.mono _ x19 h8)))) (ev_var (S := (rLst rInt).s K kept) rfl (Sv.mono _ x28 (Sv.mono _ xt24 (Sv.mono _ x19 (Sv.mono _ x6 (Sv.mono _ x3 z1)))))) srd_s srd_s))) (fun _ => rfl))) (fun _ => rfl)) (fun hb B34 H34 x34 w34 => ?_) (fun hb B34 H34 x34 w34 => ?_)
      · have hm := it hb hm
        refine s_ret w34 ev_bl (fun vv B35 H35 x35 w35 hv => ?_)
        cases hm
        replace hm := hrt24 _ rfl
        cases hm
        exact k _ _ _ w35.st w35.ex ((imm_flat _) _ _ _ _ _ hv)
      · have hm := ie hb hm
        obtain ⟨u36, e37, hm⟩ := ob hm
        try dsimp only [tNext]
        refine s_spoilA (x0 := _) (ks0 := []) (ks1 := []) (os0 := []) (os1 := []) (n := 0) w34 rfl trivial wt24 (x28.trans x34) rfl (by decide) (Sv.mono _ x34 h30) e37 rfl (fun ox39 B38 H38 x38 w38 => ?_)
        have hq_ := Option.some.inj hm
        subst hq_
        exact hN () _ _ _ hfx x38 w38 ⟨_, _, _, _, rfl⟩
    · rintro rr σ' B40 H40 x40 w40 ⟨o_6k41, o_7k41, o_8k41, o_9k41, rfl⟩ hm
      try dsimp only
      replace hm := finK_nx hm
      refine s_ret w40 ev_bl (fun vv B42 H42 x42 w42 hv => ?_)
      cases hm
      exact k _ _ _ w42.st w42.ex ((imm_flat _) _ _ _ _ _ hv)
def m__law_ahead_right : (List (List Int)) × Int → Option (Bool) := fun (book, place) =>
  (m__law_copy book).bind fun r1 =>
  (atI book place).bind fun t6 =>
  (rngO (0 : Int) (book.length : Int)).bind fun xs11 =>
  finK (fun (_ : Unit) => (some (decide (r1 = book)))) (fun (tt : Bool) => some tt) (forL (fun (goal14 : Int) (_ : Unit) => ((rngO (0 : Int) (2 : Int)).bind fun xs15 =>
  finK (fun (_ : Unit) => (some (.nx ()))) (fun (tt : Bool) => some (.rt tt)) (forL (fun (turn18 : Int) (_ : Unit) => ((okO (m_places_ahead (r1, place, goal14))).bind fun r19 =>
  cond ((!decide (goal14 = place)) && (!decide (goal14 ∈ t6))) (cond r19.isSome (some (.rt false)) (some (.nx ()))) ((cond (!decide (goal14 = place)) ((idxO t6 goal14).bind fun t33 =>
  (catO [place] (cut t6 none (some t33))).bind fun t37 =>
  some t37) (some ([] : List Int))).bind fun due32 =>
  (idO r19).bind fun t43 =>
  (m__law_same (t43, due32)).bind fun r45 =>
  cond (!r45) (some (.rt false)) ((idO r19).bind fun t49 =>
  (spoil1O t49).bind fun u51 =>
  some (.nx ()))) : Option (Ctl Unit Bool))) xs15 ()) : Option (Ctl Unit Bool))) xs11 ())
def p__law_ahead_right (K : Fg) : Sp := Pr0 K (fun (g : (List (List Int)) × Int) => [(rLst (rLst rInt)).s K g.1, rInt.s K g.2]) m__law_ahead_right rBool
abbrev N__law_ahead_right : List Str := ["book", "place", "given", "card", "goal", "turn", "told", "due"]
theorem sc__law_ahead_right : FnScope N__law_ahead_right ["book", "place"] (defScope s__law_ahead_right) := ⟨rfl, rfl, rfl, by decide +kernel, rfl, by decide +kernel, by decide +kernel⟩
theorem ok__law_ahead_right {P : Program} {w : World} {K : Fg} {mg : Str → Option Value} {base : Heap} (T : Tx P K mg) {fd : FuncData} (F : FnP K "_law_ahead_right" s__law_ahead_right (He.ga K "_law_ahead_right") fd) : FnOk P w K mg base (L2.CX P w) 4 (He.ga K "_law_ahead_right") fd ["book", "place"] (p__law_ahead_right K) := by
  obtain ⟨fd__law_copy, F__law_copy⟩ := T.f__law_copy
  have b__law_copy : Binds K fd__law_copy ["table"] [] := F__law_copy.bindsN fun _ _ _ _ _ _ us hl => match us, hl with | [_], _ => rfl
  have G__law_copy : FnOk P w K mg base (L2.CX P w) 1 (He.ga K "_law_copy") fd__law_copy ["table"] (p__law_copy K) := ok__law_copy T F__law_copy
  obtain ⟨fd__law_same, F__law_same⟩ := T.f__law_same
  have b__law_same : Binds K fd__law_same ["told", "due"] [] := F__law_same.bindsN fun _ _ _ _ _ _ us hl => match us, hl with | [_, _], _ => rfl
  have G__law_same : FnOk P w K mg base (L2.CX P w) 2 (He.ga K "_law_same") fd__law_same ["told", "due"] (p__law_same K) := ok__law_same T F__law_same
  obtain ⟨fd_places_ahead, F_places_ahead⟩ := T.f_places_ahead
  have b_places_ahead : Binds K fd_places_ahead ["book", "place", "goal"] [] := F_places_ahead.bindsN fun _ _ _ _ _ _ us hl => match us, hl with | [_, _, _], _ => rfl
  have G_places_ahead : FnOk P w K mg base (L2.CX P w) 3 (He.ga K "places_ahead") fd_places_ahead ["book", "place", "goal"] (p_places_ahead K) := ok_places_ahead T F_places_ahead
  have sc := sc__law_ahead_right
  refine F.ok sc (fun vs H Q E h => ?_) (fun cdv A outer s H vs Q E hr h => ?_)
  · obtain ⟨g, z, B, ss, _⟩ := h
    exact (Paired.length ss).trans rfl
  · obtain ⟨⟨book, place⟩, z, B, ss, ex, hm, k⟩ := h
    obtain ⟨v0, v1, rfl, z0, z1⟩ := pn2 ss
    have hu := hr.units
    refine ⟨_, (pss_cons (ps_set (i := 2) sc.nd rfl (Or.inl rfl) (pe_call G__law_copy (hr.mono (by decide)) (by rfl) T.m__law_copy F__law_copy.kp b__law_copy .nil passL (pa_cons (pv 0) pa_nil))) (pss_cons (ps_set (i := 3) sc.nd rfl (Or.inl rfl) (pe_ix (ixl (K := K) rfl) (pv 0) (pv 1) (fun _ _ => rfl))) (pss_cons (ps_for (passes_of rfl) rfl (pi_range1 (by rfl) T.b_range (pa_cons (pe_callB (clen (K := K) rfl) (by rfl) T.b_len (by decide +kernel) (pa_cons (pv 0) pa_nil)) pa_nil)) (pg_name (i := 4) sc.nd rfl (Or.inl rfl)) (pss_one (ps_for (passes_of rfl) rfl (pi_range1 (by rfl) T.b_range (pa_cons pe_int pa_nil)) (pg_name (i := 5) sc.nd rfl (Or.inl rfl)) (pss_cons (ps_set (i := 6) sc.nd rfl (Or.inl rfl) (pe_call G_places_ahead (hr.mono (by decide)) (by rfl) T.m_places_ahead F_places_ahead.kp b_places_ahead .nil passL (pa_cons (pv 2) (pa_cons (pv 1) (pa_cons (pv 4) pa_nil))))) (pss_one (ps_if (PW.pt (pw_and (pt_cmpR op_ne (pv 4) (pv 1) (nomark _)) (pw_and1 (pt_cmpR (opnin (K := K) rfl) (pv 4) (pv 3) (by rfl))))) (pss_one (ps_if (pt_cmpR op_notN (pv 6) pe_non (nomark _)) (pss_one (ps_ret pe_bl)) pss_nil)) (pss_cons (ps_set (i := 7) sc.nd rfl (Or.inl rfl) (pe_lst pa_nil)) (pss_cons (ps_if (pt_cmpR op_ne (pv 4) (pv 1) (nomark _)) (pss_one (ps_set (i := 7) sc.nd rfl (Or.inl rfl) (pe_op op_cat (pe_lst (pa_cons (pv 1) pa_nil)) (pe_slice (sll (K := K) rfl) (pv 3) po_none (po_some (pe_bm PySem.F.plainAttrs_list PySem.F.slot_list_index PySem.F.type_list_index mt_index (pv 3) (pa_cons (pv 4) pa_nil))))))) pss_nil) (pss_cons (ps_if (pt_not (pt_val (pe_call G__law_same (hr.mono (by decide)) (by rfl) T.m__law_same F__law_same.kp b__law_same .nil passL (pa_cons (pv 6) (pa_cons (pv 7) pa_nil))))) (pss_one (ps_ret pe_bl)) pss_nil) (pss_one (ps_expr (pe_bm PySem.F.plainAttrs_list PySem.F.slot_list_append PySem.F.type_list_append mt_append (pv 6) (pa_cons (pv 1) pa_nil))))))))))))) (pss_one (ps_ret (pe_cmpR (opeqD (K := K) rfl hu) (pv 2) (pv 0) (nomark _))))))), ?_⟩
    have w := Wd.start (K := K) ex
    unfold m__law_ahead_right at hm
    obtain ⟨r1, e2, hm⟩ := ob hm
    refine s_asg w ((ev_call0 (g := book) (ea_cons (ev_var (S := (rLst (rLst rInt)).s K book) rfl z0) ea_nil) (al_p (fun _ z => z) al_nil) e2).le llg_s) (fun w_v4 B3 H3 x3 w3 h5 => ?_)
    obtain ⟨t6, e7, hm⟩ := ob hm
    refine s_asg w3 (ev_ix (ev_var (S := (rLst (rLst rInt)).s K book) rfl (Sv.mono _ x3 z0)) (ev_var (S := rInt.s K place) rfl (Sv.mono _ x3 z1)) src_p e7) (fun w_v9 B8 H8 x8 w8 h10 => ?_)
    obtain ⟨xs11, e12, hm⟩ := ob hm
    refine s_for (R := rInt) (oo := (fun (rr : Unit) => [])) (ρ0 := ()) (fun (goal14 : Int) (_ : Unit) => ((rngO (0 : Int) (2 : Int)).bind fun xs15 =>
finK (fun (_ : Unit) => (some (.nx ()))) (fun (tt : Bool) => some (.rt tt)) (forL (fun (turn18 : Int) (_ : Unit) => ((okO (m_places_ahead (r1, place, goal14))).bind fun r19 =>
cond ((!decide (goal14 = place)) && (!decide (goal14 ∈ t6))) (cond r19.isSome (some (.rt false)) (some (.nx ()))) ((cond (!decide (goal14 = place)) ((idxO t6 goal14).bind fun t33 =>
(catO [place] (cut t6 none (some t33))).bind fun t37 =>
some t37) (some ([] : List Int))).bind fun due32 =>
(idO r19).bind fun t43 =>
(m__law_same (t43, due32)).bind fun r45 =>
cond (!r45) (some (.rt false)) ((idO r19).bind fun t49 =>
(spoil1O t49).bind fun u51 =>
some (.nx ()))) : Option (Ctl Unit Bool))) xs15 ()) : Option (Ctl Unit Bool))) (fun (_ : Unit) σ' B' => ∃ o_4 : Option V, ∃ o_5 : Option V, ∃ o_6 : Option V, ∃ o_7 : Option V, σ' = [some v0, some v1, some w_v4, some w_v9, o_4, o_5, o_6, o_7]) (fun zz => finK _ _ zz = some _) w8 (ei_r1 (ev_len (ev_var (S := (rLst (rLst rInt)).s K book) rfl (Sv.mono _ x8 (Sv.mono _ x3 z0))) src_p) e12) (fun rr σ' B1 B2 e ⟨o_4, o_5, o_6, o_7, hσ⟩ => ⟨o_4, o_5, o_6, o_7, hσ⟩) (fun B2 e => ⟨_, _, _, _, rfl⟩) hm ?_ ?_
    · rintro goal14 rst rr vx13 σ' Bt13 Ht13 xt13 wt13 ⟨o_4t13, o_5t13, o_6t13, o_7t13, rfl⟩ hx13 hf N hN dn
      dsimp only [gName]
      obtain ⟨ctl, hfx, hbk13, hrt13⟩ := forL_step hf
      have hm := hfx
      obtain ⟨xs15, e16, hm⟩ := ob hm
      refine s_for (R := rInt) (oo := (fun (rr : Unit) => [])) (ρ0 := ()) (fun (turn18 : Int) (_ : Unit) => ((okO (m_places_ahead (r1, place, goal14))).bind fun r19 =>
cond ((!decide (goal14 = place)) && (!decide (goal14 ∈ t6))) (cond r19.isSome (some (.rt false)) (some (.nx ()))) ((cond (!decide (goal14 = place)) ((idxO t6 goal14).bind fun t33 =>
(catO [place] (cut t6 none (some t33))).bind fun t37 =>
some t37) (some ([] : List Int))).bind fun due32 =>
(idO r19).bind fun t43 =>
(m__law_same (t43, due32)).bind fun r45 =>
cond (!r45) (some (.rt false)) ((idO r19).bind fun t49 =>
(spoil1O t49).bind fun u51 =>
some (.nx ()))) : Option (Ctl Unit Bool))) (fun (_ : Unit) σ' B' => ∃ o_5 : Option V, ∃ o_6 : Option V, ∃ o_7 : Option V, σ' = [some v0, some v1, some w_v4, some w_v9, some vx13, o_5, o_6, o_7]) (fun zz => finK _ _ zz = some _) wt13 (ei_r1 ev_int e16) (fun rr σ' B1 B2 e ⟨o_5, o_6, o_7, hσ⟩ => ⟨o_5, o_6, o_7, hσ⟩) (fun B2 e => ⟨_, _, _, rfl⟩) hm ?_ ?_
      · rintro turn18 rst rr vx17 σ' Bt17 Ht17 xt17 wt17 ⟨o_5t17, o_6t17, o_7t17, rfl⟩ hx17 hf N hN dn
        dsimp only [gName]
        obtain ⟨ctl, hfx, hbk17, hrt17⟩ := forL_step hf
        have hm := hfx
        obtain ⟨r19, e20, hm⟩ := ob hm
        refine s_asg wt17 (ev_callXok (g := (r1, place, goal14)) (ea_cons (ev_var (S := (rLst (rLst rInt)).s K r1) rfl (Sv.mono _ xt17 (Sv.mono _ xt13 (Sv.mono _ x8 h5)))) (ea_cons (ev_var (S := rInt.s K place) rfl (Sv.mono _ xt17 (Sv.mono _ xt13 (Sv.mono _ x8 (Sv.mono _ x3 z1))))) (ea_cons (ev_var (S := rInt.s K goal14) rfl (Sv.mono _ xt17 hx13)) ea_nil))) (al_p (fun _ z => z) (al_p (fun _ z => z) (al_p (fun _ z => z) al_nil))) (okO_eq e20)) (fun w_v22 B21 H21 x21 w21 h23 => ?_)
        try dsimp only
        refine s_if w21 (et_and (et_test (ev_neI (ev_var (S := rInt.s K goal14) rfl (Sv.mono _ x21 (Sv.mono _ xt17 hx13))) (ev_var (S := rInt.s K place) rfl (Sv.mono _ x21 (Sv.mono _ xt17 (Sv.mono _ xt13 (Sv.mono _ x8 (Sv.mono _ x3 z1)))))))) (fun _ => (et_test (ev_notin (ev_var (S := rInt.s K goal14) rfl (Sv.mono _ x21 (Sv.mono _ xt17 hx13))) (ev_var (S := (rLst rInt).s K t6) rfl (Sv.mono _ x21 (Sv.mono _ xt17 (Sv.mono _ xt13 h10)))) src_p))) (fun _ => rfl)) (fun hb B25 H25 x25 w25 => ?_) (fun hb B25 H25 x25 w25 => ?_)
        · have hm := it hb hm
          try dsimp only
          refine s_if w25 (et_test (ev_notN ((ev_var (S := (rOpt (rLst rInt)).g K Ht17 r19) rfl (Sv.mono _ x25 h23)).le g_s) nn_lst)) (fun hb B26 H26 x26 w26 => ?_) (fun hb B26 H26 x26 w26 => ?_)
          · have hm := it hb hm
            refine s_ret w26 ev_bl (fun vv B27 H27 x27 w27 hv => ?_)
            cases hm
            replace hm := hrt17 _ rfl
            cases hm
            replace hm := hrt13 _ rfl
            cases hm
            exact k _ _ _ w27.st w27.ex ((imm_flat _) _ _ _ _ _ hv)
          · have hm := ie hb hm
            have hq_ := Option.some.inj hm
            subst hq_
            exact hN () _ _ _ hfx ((x21.trans x25).trans x26) w26 ⟨_, _, _, rfl⟩
        · have hm := ie hb hm
          refine s_asg w25 ((ev_lst (R := rInt) (xs := []) ea_nil (by decide)).le sn_s) (fun w_v29 B28 H28 x28 w28 h30 => ?_)
          obtain ⟨rj, hA54, hm⟩ := ob hm
          refine s_ifJ (ks2 := []) (oo := (fun (rr : (List Int)) => [])) (fun (rr : (List Int)) σ' B' => ∃ v_7 : V, σ' = [some v0, some v1, some w_v4, some w_v9, some vx13, some vx17, some w_v22, some v_7] ∧ ((rLst rInt).s K rr).p v_7 B') (fun rr => rr = rj) w28 (et_test (ev_neI (ev_var (S := rInt.s K goal14) rfl (Sv.mono _ x28 (Sv.mono _ x25 (Sv.mono _ x21 (Sv.mono _ xt17 hx13))))) (ev_var (S := rInt.s K place) rfl (Sv.mono _ x28 (Sv.mono _ x25 (Sv.mono _ x21 (Sv.mono _ xt17 (Sv.mono _ xt13 (Sv.mono _ x8 (Sv.mono _ x3 z1)))))))))) ?_ (fun hb B31 H31 x31 w31 N hN => ?_) (fun hb B31 H31 x31 w31 N hN => ?_)
          · rintro due32 σ' B41 H41 x41 w41 ⟨v_7k42, rfl, hj0k42⟩ hq
            subst hq
            try dsimp only
            obtain ⟨t43, e44, hm⟩ := ob hm
            obtain ⟨r45, e46, hm⟩ := ob hm
            try dsimp only
            refine s_if w41 (et_not (et_B ((ev_call0 (g := (t43, due32)) (ea_cons (((ev_var (S := (rOpt (rLst rInt)).g K Ht17 r19) rfl (Sv.mono _ x41 (Sv.mono _ x28 (Sv.mono _ x25 h23)))).le g_s).le (c_opt _ _ e44)) (ea_cons (ev_var (S := (rLst rInt).s K due32) rfl hj0k42) ea_nil)) (al_p (fun _ z => z) (al_p (fun _ z => z) al_nil)) e46).le g_s))) (fun hb B47 H47 x47 w47 => ?_) (fun hb B47 H47 x47 w47 => ?_)
            · have hm := it hb hm
              refine s_ret w47 ev_bl (fun vv B48 H48 x48 w48 hv => ?_)
              cases hm
              replace hm := hrt17 _ rfl
              cases hm
              replace hm := hrt13 _ rfl
              cases hm
              exact k _ _ _ w48.st w48.ex ((imm_flat _) _ _ _ _ _ hv)
            · have hm := ie hb hm
              obtain ⟨t49, e50, hm⟩ := ob hm
              obtain ⟨u51, e52, hm⟩ := ob hm
              refine s_spoil1 (ks0 := []) (ks1 := []) (os0 := []) (os1 := []) w47 rfl trivial wt17 ((((x21.trans x25).trans x28).trans x41).trans x47) rfl (c_optG e50 (Sv.mono _ x47 (Sv.mono _ x41 (Sv.mono _ x28 (Sv.mono _ x25 h23))))) (spoil1_eq e52) (ev_var (S := rInt.s K place) rfl (Sv.mono _ x47 (Sv.mono _ x41 (Sv.mono _ x28 (Sv.mono _ x25 (Sv.mono _ x21 (Sv.mono _ xt17 (Sv.mono _ xt13 (Sv.mono _ x8 (Sv.mono _ x3 z1)))))))))) (fun B53 H53 x53 w53 => ?_)
              have hq_ := Option.some.inj hm
              subst hq_
              exact hN () _ _ _ hfx x53 w53 ⟨_, _, _, rfl⟩
          · have hm := it hb hA54
            obtain ⟨t33, e34, hm⟩ := ob hm
            obtain ⟨t37, e35, hm⟩ := ob hm
            refine s_asg w31 ((ev_catO (ev_lst (R := rInt) (xs := [place]) (ea_cons (ev_var (S := rInt.s K place) rfl (Sv.mono _ x31 (Sv.mono _ x28 (Sv.mono _ x25 (Sv.mono _ x21 (Sv.mono _ xt17 (Sv.mono _ xt13 (Sv.mono _ x8 (Sv.mono _ x3 z1))))))))) ea_nil) (by show 1 ≤ 1000; decide)) (ev_cut (ev_var (S := (rLst rInt).s K t6) rfl (Sv.mono _ x31 (Sv.mono _ x28 (Sv.mono _ x25 (Sv.mono _ x21 (Sv.mono _ xt17 (Sv.mono _ xt13 h10))))))) eo_none (eo_some (ev_index (ev_var (S := (rLst rInt).s K t6) rfl (Sv.mono _ x31 (Sv.mono _ x28 (Sv.mono _ x25 (Sv.mono _ x21 (Sv.mono _ xt17 (Sv.mono _ xt13 h10))))))) (ev_var (S := rInt.s K goal14) rfl (Sv.mono _ x31 (Sv.mono _ x28 (Sv.mono _ x25 (Sv.mono _ x21 (Sv.mono _ xt17 hx13)))))) src_p src_p e34)) src_p) src_n src_n e35).le sn_s) (fun w_v39 B38 H38 x38 w38 h40 => ?_)
            have hq_ := Option.some.inj hm
            subst hq_
            exact hN t37 _ _ _ (x31.trans x38) w38 ⟨w_v39, rfl, h40⟩ rfl
          · have hm := ie hb hA54
            have hq_ := Option.some.inj hm
            subst hq_
            exact hN ([] : List Int) _ _ _ x31 w31 ⟨w_v29, rfl, (Sv.mono _ x31 h30)⟩ rfl
      · rintro rr σ' B55 H55 x55 w55 ⟨o_5k56, o_6k56, o_7k56, rfl⟩ hm
        try dsimp only
        replace hm := finK_nx hm
        have hq_ := Option.some.inj hm
        subst hq_
        exact hN () _ _ _ hfx x55 w55 ⟨_, _, _, _, rfl⟩
    · rintro rr σ' B57 H57 x57 w57 ⟨o_4k58, o_5k58, o_6k58, o_7k58, rfl⟩ hm
      try dsimp only
      replace hm := finK_nx hm
      refine s_ret w57 (ev_eqD (dqLst (dqLst dqInt)) (ev_var (S := (rLst (rLst rInt)).s K r1) rfl (Sv.mono _ x57 (Sv.mono _ x8 h5))) (ev_var (S := (rLst (rLst rInt)).s K book) rfl (Sv.mono _ x57 (Sv.mono _ x8 (Sv.mono _ x3 z0)))) srd_s srd_s) (fun vv B59 H59 x59 w59 hv => ?_)
      cases hm
      exact k _ _ _ w59.st w59.ex ((imm_flat _) _ _ _ _ _ hv)
def m__law_opens_right : (List Int) × (List (List Int)) × Int → Option (Bool × (List Int)) := fun (state, book, place) =>
  (m__law_copy book).bind fun r1 =>
  (rngO (0 : Int) (book.length : Int)).bind fun t6 =>
  (m__law_few (state, t6)).bind fun (r8, state10) =>
  (atI book place).bind fun t14 =>
  (rngO (0 : Int) ((t14.length : Int) + (1 : Int))).bind fun xs16 =>
  finK (fun (rr : (List Int) × (List Int)) => match rr with | (state18, shut19) => (some ((decide (r1 = book)), state18))) (fun (tt : Bool × (List Int)) => some tt) (forL (fun (turn21 : Int) (rr : (List Int) × (List Int)) => (match rr with | (state18, shut19) => ((okO (m_first_open (r1, place, shut19))).bind fun r25 =>
  (m__law_whole r25).bind fun r30 =>
  (cond (!r30) (some true) ((atI book place).bind fun t32 => (m__law_open (t32, shut19)).bind fun r34 => some ((!decide (r25 = r34)) || (!decide (shut19 = shut19))))).bind fun b36 =>
  cond b36 (some (.rt (false, state18))) (cond (decide (r25 < (0 : Int))) (some (.bk (state18, shut19))) ((m__law_pick (state18, ((shut19.length : Int) + (1 : Int)))).bind fun (r41, state43) =>
  (insO shut19 r41 r25).bind fun shut44 =>
  some (.nx (state43, shut44))))) : Option (Ctl ((List Int) × (List Int)) (Bool × (List Int))))) xs16 (state10, r8))
def p__law_opens_right (K : Fg) : Sp := Pr1 K (fun (g : (List Int) × (List (List Int)) × Int) p => [SA p, (rLst (rLst rInt)).s K g.2.1, rInt.s K g.2.2]) (fun g => CL rInt K g.1) m__law_opens_right (fun e => CL rInt K e) rBool
abbrev N__law_opens_right : List Str := ["state", "book", "place", "given", "shut", "turn", "before", "told"]
theorem sc__law_opens_right : FnScope N__law_opens_right ["state", "book", "place"] (defScope s__law_opens_right) := ⟨rfl, rfl, rfl, by decide +kernel, rfl, by decide +kernel, by decide +kernel⟩
theorem ok__law_opens_right {P : Program} {w : World} {K : Fg} {mg : Str → Option Value} {base : Heap} (T : Tx P K mg) {fd : FuncData} (F : FnP K "_law_opens_right" s__law_opens_right (He.ga K "_law_opens_right") fd) : FnOk P w K mg base (L2.CX P w) 4 (He.ga K "_law_opens_right") fd ["state", "book", "place"] (p__law_opens_right K) := by
  obtain ⟨fd__law_copy, F__law_copy⟩ := T.f__law_copy
  have b__law_copy : Binds K fd__law_copy ["table"] [] := F__law_copy.bindsN fun _ _ _ _ _ _ us hl => match us, hl with | [_], _ => rfl
  have G__law_copy : FnOk P w K mg base (L2.CX P w) 1 (He.ga K "_law_copy") fd__law_copy ["table"] (p__law_copy K) := ok__law_copy T F__law_copy
  obtain ⟨fd__law_few, F__law_few⟩ := T.f__law_few
  have b__law_few : Binds K fd__law_few ["state", "row"] [] := F__law_few.bindsN fun _ _ _ _ _ _ us hl => match us, hl with | [_, _], _ => rfl
  have G__law_few : FnOk P w K mg base (L2.CX P w) 3 (He.ga K "_law_few") fd__law_few ["state", "row"] (p__law_few K) := ok__law_few T F__law_few
  obtain ⟨fd__law_open, F__law_open⟩ := T.f__law_open
  have b__law_open : Binds K fd__law_open ["card", "shut"] [] := F__law_open.bindsN fun _ _ _ _ _ _ us hl => match us, hl with | [_, _], _ => rfl
  have G__law_open : FnOk P w K mg base (L2.CX P w) 1 (He.ga K "_law_open") fd__law_open ["card", "shut"] (p__law_open K) := ok__law_open T F__law_open
  obtain ⟨fd__law_pick, F__law_pick⟩ := T.f__law_pick
  have b__law_pick : Binds K fd__law_pick ["state", "many"] [] := F__law_pick.bindsN fun _ _ _ _ _ _ us hl => match us, hl with | [_, _], _ => rfl
  have G__law_pick : FnOk P w K mg base (L2.CX P w) 1 (He.ga K "_law_pick") fd__law_pick ["state", "many"] (p__law_pick K) := ok__law_pick T F__law_pick
  obtain ⟨fd__law_whole, F__law_whole⟩ := T.f__law_whole
  have b__law_whole : Binds K fd__law_whole ["thing"] [] := F__law_whole.bindsN fun _ _ _ _ _ _ us hl => match us, hl with | [_], _ => rfl
  have G__law_whole : FnOk P w K mg base (L2.CX P w) 1 (He.ga K "_law_whole") fd__law_whole ["thing"] (p__law_whole K) := ok__law_whole T F__law_whole
  obtain ⟨fd_first_open, F_first_open⟩ := T.f_first_open
  have b_first_open : Binds K fd_first_open ["book", "place", "shut"] [] := F_first_open.bindsN fun _ _ _ _ _ _ us hl => match us, hl with | [_, _, _], _ => rfl
  have G_first_open : FnOk P w K mg base (L2.CX P w) 3 (He.ga K "first_open") fd_first_open ["book", "place", "shut"] (p_first_open K) := ok_first_open T F_first_open
  have sc := sc__law_opens_right
  refine F.ok sc (fun vs H Q E h => ?_) (fun cdv A outer s H vs Q E hr h => ?_)
  · obtain ⟨g, p, z, B, o, ss, _⟩ := h
    exact (Paired.length ss).trans rfl
  · obtain ⟨⟨state, book, place⟩, p0, z, B, o, ss, ex, h1, h2, h3, h4, hm, k⟩ := h
    obtain ⟨v0, v1, v2, rfl, z0, z1, z2⟩ := pn3 ss
    cases (show _ = V.ref p0 from z0)
    have hu := hr.units
    refine ⟨_, (pss_cons (ps_set (i := 3) sc.nd rfl (Or.inl rfl) (pe_call G__law_copy (hr.mono (by decide)) (by rfl) T.m__law_copy F__law_copy.kp b__law_copy .nil passL (pa_cons (pv 1) pa_nil))) (pss_cons (ps_set (i := 4) sc.nd rfl (Or.inl rfl) (pe_call G__law_few (hr.mono (by decide)) (by rfl) T.m__law_few F__law_few.kp b__law_few .nil passL (pa_cons (pv 0) (pa_cons (pe_listRg (by rfl) (by rfl) T.b_list (prg_1 (by rfl) T.b_range (pe_callB (clen (K := K) rfl) (by rfl) T.b_len (by decide +kernel) (pa_cons (pv 1) pa_nil)))) pa_nil)))) (pss_cons (ps_for (passes_of rfl) rfl (pi_range1 (by rfl) T.b_range (pa_cons (pe_op op_add (pe_callB (clen (K := K) rfl) (by rfl) T.b_len (by decide +kernel) (pa_cons (pe_ix (ixl (K := K) rfl) (pv 1) (pv 2) (fun _ _ => rfl)) pa_nil)) pe_int) pa_nil)) (pg_name (i := 5) sc.nd rfl (Or.inl rfl)) (pss_cons (ps_set (i := 6) sc.nd rfl (Or.inl rfl) (pe_callTy (clst (K := K) rfl) (by rfl) T.b_list (by decide +kernel) (pa_cons (pv 4) pa_nil))) (pss_cons (ps_set (i := 7) sc.nd rfl (Or.inl rfl) (pe_call G_first_open (hr.mono (by decide)) (by rfl) T.m_first_open F_first_open.kp b_first_open .nil passL (pa_cons (pv 3) (pa_cons (pv 2) (pa_cons (pv 4) pa_nil))))) (pss_cons (ps_if (PW.pt (pw_or (pt_not (pt_val (pe_call G__law_whole (hr.mono (by decide)) (by rfl) T.m__law_whole F__law_whole.kp b__law_whole .nil passL (pa_cons (pv 7) pa_nil)))) (pw_or (pt_cmpR op_ne (pv 7) (pe_call G__law_open (hr.mono (by decide)) (by rfl) T.m__law_open F__law_open.kp b__law_open .nil passL (pa_cons (pe_ix (ixl (K := K) rfl) (pv 1) (pv 2) (fun _ _ => rfl)) (pa_cons (pv 6) pa_nil))) (nomark _)) (pw_or1 (pt_cmpR (opneD (K := K) rfl hu) (pv 4) (pv 6) (nomark _)))))) (pss_one (ps_ret pe_bl)) pss_nil) (pss_cons (ps_if (pt_cmpR op_lt (pv 7) pe_int (nomark _)) (pss_one ps_break) pss_nil) (pss_one (ps_expr (pe_bm PySem.F.plainAttrs_list PySem.F.slot_list_insert PySem.F.type_list_insert mt_insert (pv 4) (pa_cons (pe_call G__law_pick (hr.mono (by decide)) (by rfl) T.m__law_pick F__law_pick.kp b__law_pick .nil passL (pa_cons (pv 0) (pa_cons (pe_op op_add (pe_callB (clen (K := K) rfl) (by rfl) T.b_len (by decide +kernel) (pa_cons (pv 4) pa_nil)) pe_int) pa_nil))) (pa_cons (pv 7) pa_nil)))))))))) (pss_one (ps_ret (pe_cmpR (opeqD (K := K) rfl hu) (pv 3) (pv 1) (nomark _))))))), ?_⟩
    have w := Wd.start1 (K := K) ex h1 h2 h3 h4
    unfold m__law_opens_right at hm
    obtain ⟨r1, e2, hm⟩ := ob hm
    refine s_asg w ((ev_call0 (g := book) (ea_cons (ev_var (S := (rLst (rLst rInt)).s K book) rfl z1) ea_nil) (al_p (fun _ z => z) al_nil) e2).le llg_s) (fun w_v4 B3 H3 x3 w3 h5 => ?_)
    obtain ⟨t6, e7, hm⟩ := ob hm
    obtain ⟨⟨r8, state10⟩, e9, hm⟩ := ob hm
    try dsimp only at hm
    refine s_own w3 ((ev_call1 (g := (state, t6)) 0 rfl (ea_cons (ev_var (S := SA p0) rfl rfl) (ea_cons (ev_listR1 (ev_len (ev_var (S := (rLst (rLst rInt)).s K book) rfl (Sv.mono _ x3 z1)) src_p) e7) ea_nil)) rfl (al_p (fun a z => List.mem_of_mem_eraseIdx z) (al_le sn_s (fun a z => List.mem_of_mem_eraseIdx z) al_nil)) e9 (csi (imm_flat _))).le g_sn) (imm_flat _) ⟨csi (imm_flat _), trivial⟩ (fun q12 B11 H11 x11 n13 w11 => ?_)
    obtain ⟨t14, e15, hm⟩ := ob hm
    obtain ⟨xs16, e17, hm⟩ := ob hm
    refine s_for (R := rInt) (oo := (fun (rr : (List Int) × (List Int)) => [CL rInt K rr.2, CL rInt K rr.1])) (ρ0 := (state10, r8)) (fun (turn21 : Int) (rr : (List Int) × (List Int)) => (match rr with | (state18, shut19) => ((okO (m_first_open (r1, place, shut19))).bind fun r25 =>
(m__law_whole r25).bind fun r30 =>
(cond (!r30) (some true) ((atI book place).bind fun t32 => (m__law_open (t32, shut19)).bind fun r34 => some ((!decide (r25 = r34)) || (!decide (shut19 = shut19))))).bind fun b36 =>
cond b36 (some (.rt (false, state18))) (cond (decide (r25 < (0 : Int))) (some (.bk (state18, shut19))) ((m__law_pick (state18, ((shut19.length : Int) + (1 : Int)))).bind fun (r41, state43) =>
(insO shut19 r41 r25).bind fun shut44 =>
some (.nx (state43, shut44))))) : Option (Ctl ((List Int) × (List Int)) (Bool × (List Int))))) (fun (rr : (List Int) × (List Int)) σ' B' => ∃ o_5 : Option V, ∃ o_6 : Option V, ∃ o_7 : Option V, σ' = [some (.ref p0), some v1, some v2, some w_v4, some (.ref q12), o_5, o_6, o_7]) (fun zz => finK _ _ zz = some _) w11 (ei_r1 (ev_add (ev_len (ev_ix (ev_var (S := (rLst (rLst rInt)).s K book) rfl (Sv.mono _ x11 (Sv.mono _ x3 z1))) (ev_var (S := rInt.s K place) rfl (Sv.mono _ x11 (Sv.mono _ x3 z2))) src_p e15) src_p) ev_int) e17) (fun rr σ' B1 B2 e ⟨o_5, o_6, o_7, hσ⟩ => ⟨o_5, o_6, o_7, hσ⟩) (fun B2 e => ⟨_, _, _, rfl⟩) hm ?_ ?_
    · rintro turn21 rst rr vx20 σ' Bt20 Ht20 xt20 wt20 ⟨o_5t20, o_6t20, o_7t20, rfl⟩ hx20 hf N hN dn
      dsimp only [gName]
      obtain ⟨state18, shut19⟩ := rr
      obtain ⟨ctl, hfx, hbk20, hrt20⟩ := forL_step hf
      have hm := hfx
      refine s_asg wt20 ((ev_list (ev_var (S := SA q12) rfl rfl) (src_o (R := rInt) (xs := shut19) 0 rfl rfl)).le sn_s) (fun w_v23 B22 H22 x22 w22 h24 => ?_)
      obtain ⟨r25, e26, hm⟩ := ob hm
      refine s_asg w22 ((ev_callXok (g := (r1, place, shut19)) (ea_cons (ev_var (S := (rLst (rLst rInt)).s K r1) rfl (Sv.mono _ x22 (Sv.mono _ xt20 (Sv.mono _ x11 h5)))) (ea_cons (ev_var (S := rInt.s K place) rfl (Sv.mono _ x22 (Sv.mono _ xt20 (Sv.mono _ x11 (Sv.mono _ x3 z2))))) (ea_cons (ev_var (S := SA q12) rfl rfl) ea_nil))) (al_p (fun _ z => z) (al_p (fun _ z => z) (al_o (R := rInt) (xs := shut19) 0 rfl rfl (List.mem_of_getElem? (i := 0) rfl) (fun _ z => z) al_nil))) (okO_eq e26)).le g_s) (fun w_v28 B27 H27 x27 w27 h29 => ?_)
      obtain ⟨r30, e31, hm⟩ := ob hm
      obtain ⟨b36, e37, hm⟩ := ob hm
      try dsimp only
      refine s_if w27 (et_orO (b := b36) (et_not (et_B ((ev_call0 (g := r25) (ea_cons (ev_var (S := rInt.s K r25) rfl h29) ea_nil) (al_p (fun _ z => z) al_nil) e31).le g_s))) (fun hc => by have e37 := ie hc e37; obtain ⟨t32, e33, e37⟩ := ob e37; obtain ⟨r34, e35, e37⟩ := ob e37; have hq_ := Option.some.inj e37; subst hq_; exact (et_or (et_test (ev_neI (ev_var (S := rInt.s K r25) rfl h29) ((ev_call0 (g := (t32, shut19)) (ea_cons (ev_ix (ev_var (S := (rLst (rLst rInt)).s K book) rfl (Sv.mono _ x27 (Sv.mono _ x22 (Sv.mono _ xt20 (Sv.mono _ x11 (Sv.mono _ x3 z1)))))) (ev_var (S := rInt.s K place) rfl (Sv.mono _ x27 (Sv.mono _ x22 (Sv.mono _ xt20 (Sv.mono _ x11 (Sv.mono _ x3 z2)))))) src_p e33) (ea_cons (ev_var (S := (rLst rInt).s K shut19) rfl (Sv.mono _ x27 h24)) ea_nil)) (al_p (fun _ z => z) (al_p (fun _ z => z) al_nil)) e35).le g_s))) (fun _ => (et_test (ev_neD (dqLst dqInt) (ev_var (S := SA q12) rfl rfl) (ev_var (S := (rLst rInt).s K shut19) rfl (Sv.mono _ x27 h24)) (srd_o (R := rInt) (xs := shut19) 0 rfl rfl) srd_s))) (fun _ => rfl))) (fun hc => by have e37 := it hc e37; cases e37; exact ⟨rfl, rfl⟩)) (fun hb B38 H38 x38 w38 => ?_) (fun hb B38 H38 x38 w38 => ?_)
      · have hm := it hb hm
        refine s_ret w38 ev_bl (fun vv B39 H39 x39 w39 hv => ?_)
        cases hm
        replace hm := hrt20 _ rfl
        cases hm
        obtain ⟨oz, gz1, _, gz3, gz4⟩ := w39.cell.get (i := 1) rfl rfl
        exact k _ _ _ oz w39.st w39.ex gz1 gz3 gz4 ((imm_flat _) _ _ _ _ _ hv)
      · have hm := ie hb hm
        try dsimp only
        refine s_if w38 (et_test (ev_lt (ev_var (S := rInt.s K r25) rfl (Sv.mono _ x38 h29)) ev_int)) (fun hb B40 H40 x40 w40 => ?_) (fun hb B40 H40 x40 w40 => ?_)
        · have hm := it hb hm
          have hq_ := Option.some.inj hm
          subst hq_
          exact dn _ _ _ _ ((((xt20.trans x22).trans x27).trans x38).trans x40) w40 ⟨_, _, _, rfl⟩ (hbk20 _ rfl)
        · have hm := ie hb hm
          obtain ⟨⟨r41, state43⟩, e42, hm⟩ := ob hm
          try dsimp only at hm
          obtain ⟨shut44, e45, hm⟩ := ob hm
          refine s_drop w40 (ev_ins 0 rfl (ev_var (S := SA q12) rfl rfl) rfl ((ev_call1 (g := (state18, ((shut19.length : Int) + (1 : Int)))) 1 rfl (ea_cons (ev_var (S := SA p0) rfl rfl) (ea_cons (ev_add (ev_len (ev_var (S := SA q12) rfl rfl) (src_o (R := rInt) (xs := shut19) 0 rfl rfl)) ev_int) ea_nil)) rfl (al_p (fun a z => List.mem_of_mem_eraseIdx z) (al_p (fun a z => List.mem_of_mem_eraseIdx z) al_nil)) e42 (csi (imm_flat _))).le g_s) (ev_var (S := rInt.s K r25) rfl (Sv.mono _ x40 (Sv.mono _ x38 h29))) rfl e45) (fun B46 H46 x46 w46 => ?_)
          have hq_ := Option.some.inj hm
          subst hq_
          exact hN (state43, shut44) _ _ _ hfx ((((x22.trans x27).trans x38).trans x40).trans x46) w46 ⟨_, _, _, rfl⟩
    · rintro rr σ' B47 H47 x47 w47 ⟨o_5k48, o_6k48, o_7k48, rfl⟩ hm
      try dsimp only
      replace hm := finK_nx hm
      obtain ⟨state18, shut19⟩ := rr
      refine s_ret w47 (ev_eqD (dqLst (dqLst dqInt)) (ev_var (S := (rLst (rLst rInt)).s K r1) rfl (Sv.mono _ x47 (Sv.mono _ x11 h5))) (ev_var (S := (rLst (rLst rInt)).s K book) rfl (Sv.mono _ x47 (Sv.mono _ x11 (Sv.mono _ x3 z1)))) srd_s srd_s) (fun vv B49 H49 x49 w49 hv => ?_)
      cases hm
      obtain ⟨oz, gz1, _, gz3, gz4⟩ := w49.cell.get (i := 1) rfl rfl
      exact k _ _ _ oz w49.st w49.ex gz1 gz3 gz4 ((imm_flat _) _ _ _ _ _ hv)
def m__law_way_right : (List (List Int)) × (List Int) × (List (List Int)) × Int → Option (Bool) := fun (book, shut, known, place) =>
  (m__law_copy book).bind fun r1 =>
  (m__law_copy known).bind fun r6 =>
  (okO (m_travel (r1, shut, r6, place))).bind fun r14 =>
  cond ((!decide (r1 = book)) || ((!decide (r6 = known)) || (!decide (shut = shut)))) (some false) ((m__law_way (book, shut, known, place)).bind fun r21 =>
  (m__law_same (r14, r21)).bind fun r23 =>
  some r23)
def p__law_way_right (K : Fg) : Sp := Pr0 K (fun (g : (List (List Int)) × (List Int) × (List (List Int)) × Int) => [(rLst (rLst rInt)).s K g.1, (rLst rInt).s K g.2.1, (rLst (rLst rInt)).s K g.2.2.1, rInt.s K g.2.2.2]) m__law_way_right rBool
abbrev N__law_way_right : List Str := ["book", "shut", "known", "place", "given", "news", "passed", "told"]
theorem sc__law_way_right : FnScope N__law_way_right ["book", "shut", "known", "place"] (defScope s__law_way_right) := ⟨rfl, rfl, rfl, by decide +kernel, rfl, by decide +kernel, by decide +kernel⟩
theorem ok__law_way_right {P : Program} {w : World} {K : Fg} {mg : Str → Option Value} {base : Heap} (T : Tx P K mg) {fd : FuncData} (F : FnP K "_law_way_right" s__law_way_right (He.ga K "_law_way_right") fd) : FnOk P w K mg base (L2.CX P w) 4 (He.ga K "_law_way_right") fd ["book", "shut", "known", "place"] (p__law_way_right K) := by
  obtain ⟨fd__law_copy, F__law_copy⟩ := T.f__law_copy
  have b__law_copy : Binds K fd__law_copy ["table"] [] := F__law_copy.bindsN fun _ _ _ _ _ _ us hl => match us, hl with | [_], _ => rfl
  have G__law_copy : FnOk P w K mg base (L2.CX P w) 1 (He.ga K "_law_copy") fd__law_copy ["table"] (p__law_copy K) := ok__law_copy T F__law_copy
  obtain ⟨fd__law_same, F__law_same⟩ := T.f__law_same
  have b__law_same : Binds K fd__law_same ["told", "due"] [] := F__law_same.bindsN fun _ _ _ _ _ _ us hl => match us, hl with | [_, _], _ => rfl
  have G__law_same : FnOk P w K mg base (L2.CX P w) 2 (He.ga K "_law_same") fd__law_same ["told", "due"] (p__law_same K) := ok__law_same T F__law_same
  obtain ⟨fd__law_way, F__law_way⟩ := T.f__law_way
  have b__law_way : Binds K fd__law_way ["book", "shut", "known", "place"] [] := F__law_way.bindsN fun _ _ _ _ _ _ us hl => match us, hl with | [_, _, _, _], _ => rfl
  have G__law_way : FnOk P w K mg base (L2.CX P w) 2 (He.ga K "_law_way") fd__law_way ["book", "shut", "known", "place"] (p__law_way K) := ok__law_way T F__law_way
  obtain ⟨fd_travel, F_travel⟩ := T.f_travel
  have b_travel : Binds K fd_travel ["book", "shut", "known", "place"] [] := F_travel.bindsN fun _ _ _ _ _ _ us hl => match us, hl with | [_, _, _, _], _ => rfl
  have G_travel : FnOk P w K mg base (L2.CX P w) 3 (He.ga K "travel") fd_travel ["book", "shut", "known", "place"] (p_travel K) := ok_travel T F_travel
  have sc := sc__law_way_right
  refine F.ok sc (fun vs H Q E h => ?_) (fun cdv A outer s H vs Q E hr h => ?_)
  · obtain ⟨g, z, B, ss, _⟩ := h
    exact (Paired.length ss).trans rfl
  · obtain ⟨⟨book, shut, known, place⟩, z, B, ss, ex, hm, k⟩ := h
    obtain ⟨v0, v1, v2, v3, rfl, z0, z1, z2, z3⟩ := pn4 ss
    have hu := hr.units
    refine ⟨_, (pss_cons (ps_set (i := 4) sc.nd rfl (Or.inl rfl) (pe_call G__law_copy (hr.mono (by decide)) (by rfl) T.m__law_copy F__law_copy.kp b__law_copy .nil passL (pa_cons (pv 0) pa_nil))) (pss_cons (ps_set (i := 5) sc.nd rfl (Or.inl rfl) (pe_call G__law_copy (hr.mono (by decide)) (by rfl) T.m__law_copy F__law_copy.kp b__law_copy .nil passL (pa_cons (pv 2) pa_nil))) (pss_cons (ps_set (i := 6) sc.nd rfl (Or.inl rfl) (pe_callTy (clst (K := K) rfl) (by rfl) T.b_list (by decide +kernel) (pa_cons (pv 1) pa_nil))) (pss_cons (ps_set (i := 7) sc.nd rfl (Or.inl rfl) (pe_call G_travel (hr.mono (by decide)) (by rfl) T.m_travel F_travel.kp b_travel .nil passL (pa_cons (pv 4) (pa_cons (pv 6) (pa_cons (pv 5) (pa_cons (pv 3) pa_nil)))))) (pss_cons (ps_if (PW.pt (pw_or (pt_cmpR (opneD (K := K) rfl hu) (pv 4) (pv 0) (nomark _)) (pw_or (pt_cmpR (opneD (K := K) rfl hu) (pv 5) (pv 2) (nomark _)) (pw_or1 (pt_cmpR (opneD (K := K) rfl hu) (pv 6) (pv 1) (nomark _)))))) (pss_one (ps_ret pe_bl)) pss_nil) (pss_one (ps_ret (pe_call G__law_same (hr.mono (by decide)) (by rfl) T.m__law_same F__law_same.kp b__law_same .nil passL (pa_cons (pv 7) (pa_cons (pe_call G__law_way (hr.mono (by decide)) (by rfl) T.m__law_way F__law_way.kp b__law_way .nil passL (pa_cons (pv 0) (pa_cons (pv 1) (pa_cons (pv 2) (pa_cons (pv 3) pa_nil))))) pa_nil)))))))))), ?_⟩
    have w := Wd.start (K := K) ex
    unfold m__law_way_right at hm
    obtain ⟨r1, e2, hm⟩ := ob hm
    refine s_asg w ((ev_call0 (g := book) (ea_cons (ev_var (S := (rLst (rLst rInt)).s K book) rfl z0) ea_nil) (al_p (fun _ z => z) al_nil) e2).le llg_s) (fun w_v4 B3 H3 x3 w3 h5 => ?_)
    obtain ⟨r6, e7, hm⟩ := ob hm
    refine s_asg w3 ((ev_call0 (g := known) (ea_cons (ev_var (S := (rLst (rLst rInt)).s K known) rfl (Sv.mono _ x3 z2)) ea_nil) (al_p (fun _ z => z) al_nil) e7).le llg_s) (fun w_v9 B8 H8 x8 w8 h10 => ?_)
    refine s_asg w8 ((ev_list (ev_var (S := (rLst rInt).s K shut) rfl (Sv.mono _ x8 (Sv.mono _ x3 z1))) src_p).le sn_s) (fun w_v12 B11 H11 x11 w11 h13 => ?_)
    obtain ⟨r14, e15, hm⟩ := ob hm
    refine s_asg w11 ((ev_callXok (g := (r1, shut, r6, place)) (ea_cons (ev_var (S := (rLst (rLst rInt)).s K r1) rfl (Sv.mono _ x11 (Sv.mono _ x8 h5))) (ea_cons (ev_var (S := (rLst rInt).s K shut) rfl h13) (ea_cons (ev_var (S := (rLst (rLst rInt)).s K r6) rfl (Sv.mono _ x11 h10)) (ea_cons (ev_var (S := rInt.s K place) rfl (Sv.mono _ x11 (Sv.mono _ x8 (Sv.mono _ x3 z3)))) ea_nil)))) (al_p (fun _ z => z) (al_p (fun _ z => z) (al_p (fun _ z => z) (al_p (fun _ z => z) al_nil)))) (okO_eq e15)).le g_s) (fun w_v17 B16 H16 x16 w16 h18 => ?_)
    try dsimp only
    refine s_if w16 (et_or (et_test (ev_neD (dqLst (dqLst dqInt)) (ev_var (S := (rLst (rLst rInt)).s K r1) rfl (Sv.mono _ x16 (Sv.mono _ x11 (Sv.mono _ x8 h5)))) (ev_var (S := (rLst (rLst rInt)).s K book) rfl (Sv.mono _ x16 (Sv.mono _ x11 (Sv.mono _ x8 (Sv.mono _ x3 z0))))) srd_s srd_s)) (fun _ => (et_or (et_test (ev_neD (dqLst (dqLst dqInt)) (ev_var (S := (rLst (rLst rInt)).s K r6) rfl (Sv.mono _ x16 (Sv.mono _ x11 h10))) (ev_var (S := (rLst (rLst rInt)).s K known) rfl (Sv.mono _ x16 (Sv.mono _ x11 (Sv.mono _ x8 (Sv.mono _ x3 z2))))) srd_s srd_s)) (fun _ => (et_test (ev_neD (dqLst dqInt) (ev_var (S := (rLst rInt).s K shut) rfl (Sv.mono _ x16 h13)) (ev_var (S := (rLst rInt).s K shut) rfl (Sv.mono _ x16 (Sv.mono _ x11 (Sv.mono _ x8 (Sv.mono _ x3 z1))))) srd_s srd_s))) (fun _ => rfl))) (fun _ => rfl)) (fun hb B19 H19 x19 w19 => ?_) (fun hb B19 H19 x19 w19 => ?_)
    · have hm := it hb hm
      refine s_ret w19 ev_bl (fun vv B20 H20 x20 w20 hv => ?_)
      cases hm
      exact k _ _ _ w20.st w20.ex ((imm_flat _) _ _ _ _ _ hv)
    · have hm := ie hb hm
      obtain ⟨r21, e22, hm⟩ := ob hm
      obtain ⟨r23, e24, hm⟩ := ob hm
      refine s_ret w19 ((ev_call0 (g := (r14, r21)) (ea_cons (ev_var (S := (rLst rInt).s K r14) rfl (Sv.mono _ x19 h18)) (ea_cons (ev_call0 (g := (book, shut, known, place)) (ea_cons (ev_var (S := (rLst (rLst rInt)).s K book) rfl (Sv.mono _ x19 (Sv.mono _ x16 (Sv.mono _ x11 (Sv.mono _ x8 (Sv.mono _ x3 z0)))))) (ea_cons (ev_var (S := (rLst rInt).s K shut) rfl (Sv.mono _ x19 (Sv.mono _ x16 (Sv.mono _ x11 (Sv.mono _ x8 (Sv.mono _ x3 z1)))))) (ea_cons (ev_var (S := (rLst (rLst rInt)).s K known) rfl (Sv.mono _ x19 (Sv.mono _ x16 (Sv.mono _ x11 (Sv.mono _ x8 (Sv.mono _ x3 z2)))))) (ea_cons (ev_var (S := rInt.s K place) rfl (Sv.mono _ x19 (Sv.mono _ x16 (Sv.mono _ x11 (Sv.mono _ x8 (Sv.mono _ x3 z3)))))) ea_nil)))) (al_p (fun _ z => z) (al_p (fun _ z => z) (al_p (fun _ z => z) (al_p (fun _ z => z) al_nil)))) e22) ea_nil)) (al_p (fun _ z => z) (al_le g_s (fun _ z => z) al_nil)) e24).le g_s) (fun vv B25 H25 x25 w25 hv => ?_)
      cases hm
      exact k _ _ _ w25.st w25.ex ((imm_flat _) _ _ _ _ _ hv)
def m__law_moves_right : (List Int) × (List (List Int)) × (List Int) × Int → Option (Bool × (List Int)) := fun (state, book, shut, place) =>
  (atI book place).bind fun t4 =>
  (m__law_arrow_row (t4, shut)).bind fun r9 =>
  finK (fun (state14 : (List Int)) => ((m__law_news (state14, shut, (book.length : Int))).bind fun (r57, state59) =>
  (m__law_way_right (book, shut, r57, place)).bind fun r63 =>
  (cond (!r63) (some true) ((m__law_copy book).bind fun r65 => (okO (m_travel (r65, shut, r57, place))).bind fun r67 => (atI r67 (1 : Int)).bind fun t69 => some (!decide (t69 ∈ r9)))).bind fun b71 =>
  cond b71 (some (false, state59)) ((m__law_news (state59, shut, (book.length : Int))).bind fun (r76, state78) =>
  (m__law_way_right (book, shut, r76, place)).bind fun r82 =>
  (cond (!r82) (some true) ((m__law_copy book).bind fun r84 => (okO (m_travel (r84, shut, r76, place))).bind fun r86 => (atI r86 (1 : Int)).bind fun t88 => some (!decide (t88 ∈ r9)))).bind fun b90 =>
  cond b90 (some (false, state78)) ((m__law_shuffled (state78, shut)).bind fun (r94, state96) =>
  (setO r76 place r94).bind fun known97 =>
  (m__law_copy book).bind fun r100 =>
  (okO (m_travel (r100, shut, known97, place))).bind fun r102 =>
  (m__law_open (t4, shut)).bind fun r104 =>
  (m__law_same (r102, [place, r104])).bind fun r106 =>
  some (r106, state96))))) (fun (tt : Bool × (List Int)) => some tt) (forL (fun (x_end16 : Int) (state14 : (List Int)) => ((cond (decide ((0 : Int) ≤ x_end16)) ((idxO t4 x_end16).bind fun t22 =>
  some (cut t4 none (some t22))) (some t4)).bind fun ahead21 =>
  (m__law_news (state14, shut, (book.length : Int))).bind fun (r29, state31) =>
  (m__law_shuffled (state31, ahead21)).bind fun (r35, state37) =>
  (setO r29 place r35).bind fun known38 =>
  (m__law_way_right (book, shut, known38, place)).bind fun r41 =>
  (cond (!r41) (some true) ((m__law_copy book).bind fun r43 => (okO (m_travel (r43, shut, known38, place))).bind fun r45 => (atI r45 (1 : Int)).bind fun t47 => some (!decide (t47 = x_end16)))).bind fun b49 =>
  cond b49 (some (.rt (false, state37))) (some (.nx state37)) : Option (Ctl (List Int) (Bool × (List Int))))) r9 state)
def p__law_moves_right (K : Fg) : Sp := Pr1 K (fun (g : (List Int) × (List (List Int)) × (List Int) × Int) p => [SA p, (rLst (rLst rInt)).s K g.2.1, (rLst rInt).s K g.2.2.1, rInt.s K g.2.2.2]) (fun g => CL rInt K g.1) m__law_moves_right (fun e => CL rInt K e) rBool
abbrev N__law_moves_right : List Str := ["state", "book", "shut", "place", "size", "card", "ends", "end", "ahead", "known", "turn"]
theorem sc__law_moves_right : FnScope N__law_moves_right ["state", "book", "shut", "place"] (defScope s__law_moves_right) := ⟨rfl, rfl, rfl, by decide +kernel, rfl, by decide +kernel, by decide +kernel⟩
theorem ok__law_moves_right {P : Program} {w : World} {K : Fg} {mg : Str → Option Value} {base : Heap} (T : Tx P K mg) {fd : FuncData} (F : FnP K "_law_moves_right" s__law_moves_right (He.ga K "_law_moves_right") fd) : FnOk P w K mg base (L2.CX P w) 5 (He.ga K "_law_moves_right") fd ["state", "book", "shut", "place"] (p__law_moves_right K) := by
  obtain ⟨fd__law_arrow_row, F__law_arrow_row⟩ := T.f__law_arrow_row
  have b__law_arrow_row : Binds K fd__law_arrow_row ["card", "shut"] [] := F__law_arrow_row.bindsN fun _ _ _ _ _ _ us hl => match us, hl with | [_, _], _ => rfl
  have G__law_arrow_row : FnOk P w K mg base (L2.CX P w) 1 (He.ga K "_law_arrow_row") fd__law_arrow_row ["card", "shut"] (p__law_arrow_row K) := ok__law_arrow_row T F__law_arrow_row
  obtain ⟨fd__law_copy, F__law_copy⟩ := T.f__law_copy
  have b__law_copy : Binds K fd__law_copy ["table"] [] := F__law_copy.bindsN fun _ _ _ _ _ _ us hl => match us, hl with | [_], _ => rfl
  have G__law_copy : FnOk P w K mg base (L2.CX P w) 1 (He.ga K "_law_copy") fd__law_copy ["table"] (p__law_copy K) := ok__law_copy T F__law_copy
  obtain ⟨fd__law_news, F__law_news⟩ := T.f__law_news
  have b__law_news : Binds K fd__law_news ["state", "shut", "size"] [] := F__law_news.bindsN fun _ _ _ _ _ _ us hl => match us, hl with | [_, _, _], _ => rfl
  have G__law_news : FnOk P w K mg base (L2.CX P w) 3 (He.ga K "_law_news") fd__law_news ["state", "shut", "size"] (p__law_news K) := ok__law_news T F__law_news
  obtain ⟨fd__law_open, F__law_open⟩ := T.f__law_open
  have b__law_open : Binds K fd__law_open ["card", "shut"] [] := F__law_open.bindsN fun _ _ _ _ _ _ us hl => match us, hl with | [_, _], _ => rfl
  have G__law_open : FnOk P w K mg base (L2.CX P w) 1 (He.ga K "_law_open") fd__law_open ["card", "shut"] (p__law_open K) := ok__law_open T F__law_open
  obtain ⟨fd__law_same, F__law_same⟩ := T.f__law_same
  have b__law_same : Binds K fd__law_same ["told", "due"] [] := F__law_same.bindsN fun _ _ _ _ _ _ us hl => match us, hl with | [_, _], _ => rfl
  have G__law_same : FnOk P w K mg base (L2.CX P w) 2 (He.ga K "_law_same") fd__law_same ["told", "due"] (p__law_same K) := ok__law_same T F__law_same
  obtain ⟨fd__law_shuffled, F__law_shuffled⟩ := T.f__law_shuffled
  have b__law_shuffled : Binds K fd__law_shuffled ["state", "row"] [] := F__law_shuffled.bindsN fun _ _ _ _ _ _ us hl => match us, hl with | [_, _], _ => rfl
  have G__law_shuffled : FnOk P w K mg base (L2.CX P w) 2 (He.ga K "_law_shuffled") fd__law_shuffled ["state", "row"] (p__law_shuffled K) := ok__law_shuffled T F__law_shuffled
  obtain ⟨fd__law_way_right, F__law_way_right⟩ := T.f__law_way_right
  have b__law_way_right : Binds K fd__law_way_right ["book", "shut", "known", "place"] [] := F__law_way_right.bindsN fun _ _ _ _ _ _ us hl => match us, hl with | [_, _, _, _], _ => rfl
  have G__law_way_right : FnOk P w K mg base (L2.CX P w) 4 (He.ga K "_law_way_right") fd__law_way_right ["book", "shut", "known", "place"] (p__law_way_right K) := ok__law_way_right T F__law_way_right
  obtain ⟨fd_travel, F_travel⟩ := T.f_travel
  have b_travel : Binds K fd_travel ["book", "shut", "known", "place"] [] := F_travel.bindsN fun _ _ _ _ _ _ us hl => match us, hl with | [_, _, _, _], _ => rfl
  have G_travel : FnOk P w K mg base (L2.CX P w) 3 (He.ga K "travel") fd_travel ["book", "shut", "known", "place"] (p_travel K) := ok_travel T F_travel
  have sc := sc__law_moves_right
  refine F.ok sc (fun vs H Q E h => ?_) (fun cdv A outer s H vs Q E hr h => ?_)
  · obtain ⟨g, p, z, B, o, ss, _⟩ := h
    exact (Paired.length ss).trans rfl
  · obtain ⟨⟨state, book, shut, place⟩, p0, z, B, o, ss, ex, h1, h2, h3, h4, hm, k⟩ := h
    obtain ⟨v0, v1, v2, v3, rfl, z0, z1, z2, z3⟩ := pn4 ss
    cases (show _ = V.ref p0 from z0)
    refine ⟨_, (pss_cons (ps_set (i := 4) sc.nd rfl (Or.inl rfl) (pe_callB (clen (K := K) rfl) (by rfl) T.b_len (by decide +kernel) (pa_cons (pv 1) pa_nil))) (pss_cons (ps_set (i := 5) sc.nd rfl (Or.inl rfl) (pe_ix (ixl (K := K) rfl) (pv 1) (pv 3) (fun _ _ => rfl))) (pss_cons (ps_set (i := 6) sc.nd rfl (Or.inl rfl) (pe_call G__law_arrow_row (hr.mono (by decide)) (by rfl) T.m__law_arrow_row F__law_arrow_row.kp b__law_arrow_row .nil passL (pa_cons (pv 5) (pa_cons (pv 2) pa_nil)))) (pss_cons (ps_for (passes_of rfl) rfl (pi_list (pv 6)) (pg_name (i := 7) sc.nd rfl (Or.inl rfl)) (pss_cons (ps_set (i := 8) sc.nd rfl (Or.inl rfl) (pe_callTy (clst (K := K) rfl) (by rfl) T.b_list (by decide +kernel) (pa_cons (pv 5) pa_nil))) (pss_cons (ps_if (pt_cmpR op_ge (pv 7) pe_int (nomark _)) (pss_one (ps_set (i := 8) sc.nd rfl (Or.inl rfl) (pe_slice (sll (K := K) rfl) (pv 5) po_none (po_some (pe_bm PySem.F.plainAttrs_list PySem.F.slot_list_index PySem.F.type_list_index mt_index (pv 5) (pa_cons (pv 7) pa_nil)))))) pss_nil) (pss_cons (ps_set (i := 9) sc.nd rfl (Or.inl rfl) (pe_call G__law_news (hr.mono (by decide)) (by rfl) T.m__law_news F__law_news.kp b__law_news .nil passL (pa_cons (pv 0) (pa_cons (pv 2) (pa_cons (pv 4) pa_nil))))) (pss_cons (ps_asg (pe_call G__law_shuffled (hr.mono (by decide)) (by rfl) T.m__law_shuffled F__law_shuffled.kp b__law_shuffled .nil passL (pa_cons (pv 0) (pa_cons (pv 8) pa_nil))) (pg_sub (pv 9) (pv 3) set_list)) (pss_one (ps_if (PW.pt (pw_or (pt_not (pt_val (pe_call G__law_way_right (hr.mono (by decide)) (by rfl) T.m__law_way_right F__law_way_right.kp b__law_way_right .nil passL (pa_cons (pv 1) (pa_cons (pv 2) (pa_cons (pv 9) (pa_cons (pv 3) pa_nil))))))) (pw_or1 (pt_cmpR op_ne (pe_ix (ixl (K := K) rfl) (pe_call G_travel (hr.mono (by decide)) (by rfl) T.m_travel F_travel.kp b_travel .nil passL (pa_cons (pe_call G__law_copy (hr.mono (by decide)) (by rfl) T.m__law_copy F__law_copy.kp b__law_copy .nil passL (pa_cons (pv 1) pa_nil)) (pa_cons (pe_callTy (clst (K := K) rfl) (by rfl) T.b_list (by decide +kernel) (pa_cons (pv 2) pa_nil)) (pa_cons (pv 9) (pa_cons (pv 3) pa_nil))))) pe_int (fun _ _ => rfl)) (pv 7) (nomark _))))) (pss_one (ps_ret pe_bl)) pss_nil))))))) (pss_cons (ps_for (passes_of rfl) rfl (pi_range1 (by rfl) T.b_range (pa_cons pe_int pa_nil)) (pg_name (i := 10) sc.nd rfl (Or.inl rfl)) (pss_cons (ps_set (i := 9) sc.nd rfl (Or.inl rfl) (pe_call G__law_news (hr.mono (by decide)) (by rfl) T.m__law_news F__law_news.kp b__law_news .nil passL (pa_cons (pv 0) (pa_cons (pv 2) (pa_cons (pv 4) pa_nil))))) (pss_one (ps_if (PW.pt (pw_or (pt_not (pt_val (pe_call G__law_way_right (hr.mono (by decide)) (by rfl) T.m__law_way_right F__law_way_right.kp b__law_way_right .nil passL (pa_cons (pv 1) (pa_cons (pv 2) (pa_cons (pv 9) (pa_cons (pv 3) pa_nil))))))) (pw_or1 (pt_cmpR (opnin (K := K) rfl) (pe_ix (ixl (K := K) rfl) (pe_call G_travel (hr.mono (by decide)) (by rfl) T.m_travel F_travel.kp b_travel .nil passL (pa_cons (pe_call G__law_copy (hr.mono (by decide)) (by rfl) T.m__law_copy F__law_copy.kp b__law_copy .nil passL (pa_cons (pv 1) pa_nil)) (pa_cons (pe_callTy (clst (K := K) rfl) (by rfl) T.b_list (by decide +kernel) (pa_cons (pv 2) pa_nil)) (pa_cons (pv 9) (pa_cons (pv 3) pa_nil))))) pe_int (fun _ _ => rfl)) (pv 6) (by rfl))))) (pss_one (ps_ret pe_bl)) pss_nil)))) (pss_cons (ps_asg (pe_call G__law_shuffled (hr.mono (by decide)) (by rfl) T.m__law_shuffled F__law_shuffled.kp b__law_shuffled .nil passL (pa_cons (pv 0) (pa_cons (pv 2) pa_nil))) (pg_sub (pv 9) (pv 3) set_list)) (pss_one (ps_ret (pe_call G__law_same (hr.mono (by decide)) (by rfl) T.m__law_same F__law_same.kp b__law_same .nil passL (pa_cons (pe_call G_travel (hr.mono (by decide)) (by rfl) T.m_travel F_travel.kp b_travel .nil passL (pa_cons (pe_call G__law_copy (hr.mono (by decide)) (by rfl) T.m__law_copy F__law_copy.kp b__law_copy .nil passL (pa_cons (pv 1) pa_nil)) (pa_cons (pe_callTy (clst (K := K) rfl) (by rfl) T.b_list (by decide +kernel) (pa_cons (pv 2) pa_nil)) (pa_cons (pv 9) (pa_cons (pv 3) pa_nil))))) (pa_cons (pe_lst (pa_cons (pv 3) (pa_cons (pe_call G__law_open (hr.mono (by decide)) (by rfl) T.m__law_open F__law_open.kp b__law_open .nil passL (pa_cons (pv 5) (pa_cons (pv 2) pa_nil))) pa_nil))) pa_nil))))))))))), ?_⟩
    have w := Wd.start1 (K := K) ex h1 h2 h3 h4
    unfold m__law_moves_right at hm
    refine s_asg w (ev_len (ev_var (S := (rLst (rLst rInt)).s K book) rfl z1) src_p) (fun w_v2 B1 H1 x1 w1 h3 => ?_)
    obtain ⟨t4, e5, hm⟩ := ob hm
    refine s_asg w1 (ev_ix (ev_var (S := (rLst (rLst rInt)).s K book) rfl (Sv.mono _ x1 z1)) (ev_var (S := rInt.s K place) rfl (Sv.mono _ x1 z3)) src_p e5) (fun w_v7 B6 H6 x6 w6 h8 => ?_)
    obtain ⟨r9, e10, hm⟩ := ob hm
    refine s_asg w6 ((ev_call0 (g := (t4, shut)) (ea_cons (ev_var (S := (rLst rInt).s K t4) rfl h8) (ea_cons (ev_var (S := (rLst rInt).s K shut) rfl (Sv.mono _ x6 (Sv.mono _ x1 z2))) ea_nil)) (al_p (fun _ z => z) (al_p (fun _ z => z) al_nil)) e10).le g_s) (fun w_v12 B11 H11 x11 w11 h13 => ?_)
    refine s_for (R := rInt) (oo := (fun (rr : (List Int)) => [CL rInt K rr])) (ρ0 := state) (fun (x_end16 : Int) (state14 : (List Int)) => ((cond (decide ((0 : Int) ≤ x_end16)) ((idxO t4 x_end16).bind fun t22 =>
some (cut t4 none (some t22))) (some t4)).bind fun ahead21 =>
(m__law_news (state14, shut, (book.length : Int))).bind fun (r29, state31) =>
(m__law_shuffled (state31, ahead21)).bind fun (r35, state37) =>
(setO r29 place r35).bind fun known38 =>
(m__law_way_right (book, shut, known38, place)).bind fun r41 =>
(cond (!r41) (some true) ((m__law_copy book).bind fun r43 => (okO (m_travel (r43, shut, known38, place))).bind fun r45 => (atI r45 (1 : Int)).bind fun t47 => some (!decide (t47 = x_end16)))).bind fun b49 =>
cond b49 (some (.rt (false, state37))) (some (.nx state37)) : Option (Ctl (List Int) (Bool × (List Int))))) (fun (rr : (List Int)) σ' B' => ∃ o_7 : Option V, ∃ o_8 : Option V, ∃ o_9 : Option V, ∃ o_10 : Option V, σ' = [some (.ref p0), some v1, some v2, some v3, some w_v2, some w_v7, some w_v12, o_7, o_8, o_9, o_10]) (fun zz => finK _ _ zz = some _) w11 (ei_list (ev_var (S := (rLst rInt).s K r9) rfl h13)) (fun rr σ' B1 B2 e ⟨o_7, o_8, o_9, o_10, hσ⟩ => ⟨o_7, o_8, o_9, o_10, hσ⟩) (fun B2 e => ⟨_, _, _, _, rfl⟩) hm ?_ ?_
    · rintro x_end16 rst state14 vx15 σ' Bt15 Ht15 xt15 wt15 ⟨o_7t15, o_8t15, o_9t15, o_10t15, rfl⟩ hx15 hf N hN dn
      dsimp only [gName]
      obtain ⟨ctl, hfx, hbk15, hrt15⟩ := forL_step hf
      have hm := hfx
      refine s_asg wt15 ((ev_list (ev_var (S := (rLst rInt).s K t4) rfl (Sv.mono _ xt15 (Sv.mono _ x11 h8))) src_p).le sn_s) (fun w_v18 B17 H17 x17 w17 h19 => ?_)
      obtain ⟨rj, hA54, hm⟩ := ob hm
      refine s_ifJ (ks2 := [p0]) (oo := (fun (rr : (List Int)) => [CL rInt K state14])) (fun (rr : (List Int)) σ' B' => ∃ v_8 : V, ∃ o_9 : Option V, ∃ o_10 : Option V, σ' = [some (.ref p0), some v1, some v2, some v3, some w_v2, some w_v7, some w_v12, some vx15, some v_8, o_9, o_10] ∧ ((rLst rInt).s K rr).p v_8 B') (fun rr => rr = rj) w17 (et_test (ev_ge (ev_var (S := rInt.s K x_end16) rfl (Sv.mono _ x17 hx15)) ev_int)) ?_ (fun hb B20 H20 x20 w20 N hN => ?_) (fun hb B20 H20 x20 w20 N hN => ?_)
      · rintro ahead21 σ' B27 H27 x27 w27 ⟨v_8k28, o_9k28, o_10k28, rfl, hj0k28⟩ hq
        subst hq
        try dsimp only
        obtain ⟨⟨r29, state31⟩, e30, hm⟩ := ob hm
        try dsimp only at hm
        refine s_ownLL w27 (ev_call1 (g := (state14, shut, (book.length : Int))) 0 rfl (ea_cons (ev_var (S := SA p0) rfl rfl) (ea_cons (ev_var (S := (rLst rInt).s K shut) rfl (Sv.mono _ x27 (Sv.mono _ x17 (Sv.mono _ xt15 (Sv.mono _ x11 (Sv.mono _ x6 (Sv.mono _ x1 z2))))))) (ea_cons (ev_var (S := rInt.s K (book.length : Int)) rfl (Sv.mono _ x27 (Sv.mono _ x17 (Sv.mono _ xt15 (Sv.mono _ x11 (Sv.mono _ x6 h3)))))) ea_nil))) rfl (al_p (fun a z => List.mem_of_mem_eraseIdx z) (al_p (fun a z => List.mem_of_mem_eraseIdx z) (al_p (fun a z => List.mem_of_mem_eraseIdx z) al_nil))) e30 (csi (imm_flat _))) ⟨csi (imm_flat _), trivial⟩ (fun q33 B32 H32 x32 n34 w32 => ?_)
        obtain ⟨⟨r35, state37⟩, e36, hm⟩ := ob hm
        try dsimp only at hm
        obtain ⟨known38, e39, hm⟩ := ob hm
        refine s_set 0 rfl w32 ((ev_call1 (g := (state31, ahead21)) 1 rfl (ea_cons (ev_var (S := SA p0) rfl rfl) (ea_cons (ev_var (S := (rLst rInt).s K ahead21) rfl (Sv.mono _ x32 hj0k28)) ea_nil)) rfl (al_p (fun a z => List.mem_of_mem_eraseIdx z) (al_p (fun a z => List.mem_of_mem_eraseIdx z) al_nil)) e36 (csi (imm_flat _))).le g_s) (ev_var (S := SA q33) rfl rfl) (ev_var (S := rInt.s K place) rfl (Sv.mono _ x32 (Sv.mono _ x27 (Sv.mono _ x17 (Sv.mono _ xt15 (Sv.mono _ x11 (Sv.mono _ x6 (Sv.mono _ x1 z3)))))))) rfl e39 (fun B40 H40 x40 w40 => ?_)
        obtain ⟨r41, e42, hm⟩ := ob hm
        obtain ⟨b49, e50, hm⟩ := ob hm
        try dsimp only
        refine s_if w40 (et_orO (b := b49) (et_not (et_B ((ev_call0 (g := (book, shut, known38, place)) (ea_cons (ev_var (S := (rLst (rLst rInt)).s K book) rfl (Sv.mono _ x40 (Sv.mono _ x32 (Sv.mono _ x27 (Sv.mono _ x17 (Sv.mono _ xt15 (Sv.mono _ x11 (Sv.mono _ x6 (Sv.mono _ x1 z1))))))))) (ea_cons (ev_var (S := (rLst rInt).s K shut) rfl (Sv.mono _ x40 (Sv.mono _ x32 (Sv.mono _ x27 (Sv.mono _ x17 (Sv.mono _ xt15 (Sv.mono _ x11 (Sv.mono _ x6 (Sv.mono _ x1 z2))))))))) (ea_cons (ev_var (S := SA q33) rfl rfl) (ea_cons (ev_var (S := rInt.s K place) rfl (Sv.mono _ x40 (Sv.mono _ x32 (Sv.mono _ x27 (Sv.mono _ x17 (Sv.mono _ xt15 (Sv.mono _ x11 (Sv.mono _ x6 (Sv.mono _ x1 z3))))))))) ea_nil)))) (al_p (fun _ z => z) (al_p (fun _ z => z) (al_o (R := (rLst rInt)) (xs := known38) 0 rfl rfl (List.mem_of_getElem? (i := 0) rfl) (fun _ z => z) (al_p (fun _ z => z) al_nil)))) e42).le g_s))) (fun hc => by have e50 := ie hc e50; obtain ⟨r43, e44, e50⟩ := ob e50; obtain ⟨r45, e46, e50⟩ := ob e50; obtain ⟨t47, e48, e50⟩ := ob e50; have hq_ := Option.some.inj e50; subst hq_; exact (et_test (ev_neI (ev_ix (ev_callXok (g := (r43, shut, known38, place)) (ea_cons (ev_call0 (g := book) (ea_cons (ev_var (S := (rLst (rLst rInt)).s K book) rfl (Sv.mono _ x40 (Sv.mono _ x32 (Sv.mono _ x27 (Sv.mono _ x17 (Sv.mono _ xt15 (Sv.mono _ x11 (Sv.mono _ x6 (Sv.mono _ x1 z1))))))))) ea_nil) (al_p (fun _ z => z) al_nil) e44) (ea_cons (ev_list (ev_var (S := (rLst rInt).s K shut) rfl (Sv.mono _ x40 (Sv.mono _ x32 (Sv.mono _ x27 (Sv.mono _ x17 (Sv.mono _ xt15 (Sv.mono _ x11 (Sv.mono _ x6 (Sv.mono _ x1 z2))))))))) src_p) (ea_cons (ev_var (S := SA q33) rfl rfl) (ea_cons (ev_var (S := rInt.s K place) rfl (Sv.mono _ x40 (Sv.mono _ x32 (Sv.mono _ x27 (Sv.mono _ x17 (Sv.mono _ xt15 (Sv.mono _ x11 (Sv.mono _ x6 (Sv.mono _ x1 z3))))))))) ea_nil)))) (al_le llg_s (fun _ z => z) (al_le sn_s (fun _ z => z) (al_o (R := (rLst rInt)) (xs := known38) 0 rfl rfl (List.mem_of_getElem? (i := 0) rfl) (fun _ z => z) (al_p (fun _ z => z) al_nil)))) (okO_eq e46)) ev_int src_g e48) (ev_var (S := rInt.s K x_end16) rfl (Sv.mono _ x40 (Sv.mono _ x32 (Sv.mono _ x27 (Sv.mono _ x17 hx15)))))))) (fun hc => by have e50 := it hc e50; cases e50; exact ⟨rfl, rfl⟩)) (fun hb B51 H51 x51 w51 => ?_) (fun hb B51 H51 x51 w51 => ?_)
        · have hm := it hb hm
          refine s_ret w51 ev_bl (fun vv B52 H52 x52 w52 hv => ?_)
          cases hm
          replace hm := hrt15 _ rfl
          cases hm
          obtain ⟨oz, gz1, _, gz3, gz4⟩ := w52.cell.get (i := 1) rfl rfl
          exact k _ _ _ oz w52.st w52.ex gz1 gz3 gz4 ((imm_flat _) _ _ _ _ _ hv)
        · have hm := ie hb hm
          have w53 := Wd.rm w51 0
          have hq_ := Option.some.inj hm
          subst hq_
          exact hN state37 _ _ _ hfx ((((x17.trans x27).trans x32).trans x40).trans x51) w53 ⟨_, _, _, _, rfl⟩
      · have hm := it hb hA54
        obtain ⟨t22, e23, hm⟩ := ob hm
        refine s_asg w20 ((ev_cut (ev_var (S := (rLst rInt).s K t4) rfl (Sv.mono _ x20 (Sv.mono _ x17 (Sv.mono _ xt15 (Sv.mono _ x11 h8))))) eo_none (eo_some (ev_index (ev_var (S := (rLst rInt).s K t4) rfl (Sv.mono _ x20 (Sv.mono _ x17 (Sv.mono _ xt15 (Sv.mono _ x11 h8))))) (ev_var (S := rInt.s K x_end16) rfl (Sv.mono _ x20 (Sv.mono _ x17 hx15))) src_p src_p e23)) src_p).le sn_s) (fun w_v25 B24 H24 x24 w24 h26 => ?_)
        have hq_ := Option.some.inj hm
        subst hq_
        exact hN (cut t4 none (some t22)) _ _ _ (x20.trans x24) w24 ⟨w_v25, _, _, rfl, h26⟩ rfl
      · have hm := ie hb hA54
        have hq_ := Option.some.inj hm
        subst hq_
        exact hN t4 _ _ _ x20 w20 ⟨w_v18, _, _, rfl, (Sv.mono _ x20 h19)⟩ rfl
    · rintro state14 σ' B55 H55 x55 w55 ⟨o_7k56, o_8k56, o_9k56, o_10k56, rfl⟩ hm
      try dsimp only
      replace hm := finK_nx hm
      refine s_forR2 ?_
      try dsimp only
      obtain ⟨⟨r57, state59⟩, e58, hm⟩ := ob hm
      try dsimp only at hm
      refine s_ownLL w55 (ev_call1 (g := (state14, shut, (book.length : Int))) 0 rfl (ea_cons (ev_var (S := SA p0) rfl rfl) (ea_cons (ev_var (S := (rLst rInt).s K shut) rfl (Sv.mono _ x55 (Sv.mono _ x11 (Sv.mono _ x6 (Sv.mono _ x1 z2))))) (ea_cons (ev_var (S := rInt.s K (book.length : Int)) rfl (Sv.mono _ x55 (Sv.mono _ x11 (Sv.mono _ x6 h3)))) ea_nil))) rfl (al_p (fun a z => List.mem_of_mem_eraseIdx z) (al_p (fun a z => List.mem_of_mem_eraseIdx z) (al_p (fun a z => List.mem_of_mem_eraseIdx z) al_nil))) e58 (csi (imm_flat _))) ⟨csi (imm_flat _), trivial⟩ (fun q61 B60 H60 x60 n62 w60 => ?_)
      obtain ⟨r63, e64, hm⟩ := ob hm
      obtain ⟨b71, e72, hm⟩ := ob hm
      try dsimp only
      refine s_if w60 (et_orO (b := b71) (et_not (et_B ((ev_call0 (g := (book, shut, r57, place)) (ea_cons (ev_var (S := (rLst (rLst rInt)).s K book) rfl (Sv.mono _ x60 (Sv.mono _ x55 (Sv.mono _ x11 (Sv.mono _ x6 (Sv.mono _ x1 z1)))))) (ea_cons (ev_var (S := (rLst rInt).s K shut) rfl (Sv.mono _ x60 (Sv.mono _ x55 (Sv.mono _ x11 (Sv.mono _ x6 (Sv.mono _ x1 z2)))))) (ea_cons (ev_var (S := SA q61) rfl rfl) (ea_cons (ev_var (S := rInt.s K place) rfl (Sv.mono _ x60 (Sv.mono _ x55 (Sv.mono _ x11 (Sv.mono _ x6 (Sv.mono _ x1 z3)))))) ea_nil)))) (al_p (fun _ z => z) (al_p (fun _ z => z) (al_o (R := (rLst rInt)) (xs := r57) 0 rfl rfl (List.mem_of_getElem? (i := 0) rfl) (fun _ z => z) (al_p (fun _ z => z) al_nil)))) e64).le g_s))) (fun hc => by have e72 := ie hc e72; obtain ⟨r65, e66, e72⟩ := ob e72; obtain ⟨r67, e68, e72⟩ := ob e72; obtain ⟨t69, e70, e72⟩ := ob e72; have hq_ := Option.some.inj e72; subst hq_; exact (et_test (ev_notin (ev_ix (ev_callXok (g := (r65, shut, r57, place)) (ea_cons (ev_call0 (g := book) (ea_cons (ev_var (S := (rLst (rLst rInt)).s K book) rfl (Sv.mono _ x60 (Sv.mono _ x55 (Sv.mono _ x11 (Sv.mono _ x6 (Sv.mono _ x1 z1)))))) ea_nil) (al_p (fun _ z => z) al_nil) e66) (ea_cons (ev_list (ev_var (S := (rLst rInt).s K shut) rfl (Sv.mono _ x60 (Sv.mono _ x55 (Sv.mono _ x11 (Sv.mono _ x6 (Sv.mono _ x1 z2)))))) src_p) (ea_cons (ev_var (S := SA q61) rfl rfl) (ea_cons (ev_var (S := rInt.s K place) rfl (Sv.mono _ x60 (Sv.mono _ x55 (Sv.mono _ x11 (Sv.mono _ x6 (Sv.mono _ x1 z3)))))) ea_nil)))) (al_le llg_s (fun _ z => z) (al_le sn_s (fun _ z => z) (al_o (R := (rLst rInt)) (xs := r57) 0 rfl rfl (List.mem_of_getElem? (i := 0) rfl) (fun _ z => z) (al_p (fun _ z => z) al_nil)))) (okO_eq e68)) ev_int src_g e70) (ev_var (S := (rLst rInt).s K r9) rfl (Sv.mono _ x60 (Sv.mono _ x55 h13))) src_p))) (fun hc => by have e72 := it hc e72; cases e72; exact ⟨rfl, rfl⟩)) (fun hb B73 H73 x73 w73 => ?_) (fun hb B73 H73 x73 w73 => ?_)
      · have hm := it hb hm
        refine s_ret w73 ev_bl (fun vv B74 H74 x74 w74 hv => ?_)
        cases hm
        obtain ⟨oz, gz1, _, gz3, gz4⟩ := w74.cell.get (i := 1) rfl rfl
        exact k _ _ _ oz w74.st w74.ex gz1 gz3 gz4 ((imm_flat _) _ _ _ _ _ hv)
      · have hm := ie hb hm
        try dsimp only
        have w75 := Wd.rm w73 0
        obtain ⟨⟨r76, state78⟩, e77, hm⟩ := ob hm
        try dsimp only at hm
        refine s_ownLL w75 (ev_call1 (g := (state59, shut, (book.length : Int))) 0 rfl (ea_cons (ev_var (S := SA p0) rfl rfl) (ea_cons (ev_var (S := (rLst rInt).s K shut) rfl (Sv.mono _ x73 (Sv.mono _ x60 (Sv.mono _ x55 (Sv.mono _ x11 (Sv.mono _ x6 (Sv.mono _ x1 z2))))))) (ea_cons (ev_var (S := rInt.s K (book.length : Int)) rfl (Sv.mono _ x73 (Sv.mono _ x60 (Sv.mono _ x55 (Sv.mono _ x11 (Sv.mono _ x6 h3)))))) ea_nil))) rfl (al_p (fun a z => List.mem_of_mem_eraseIdx z) (al_p (fun a z => List.mem_of_mem_eraseIdx z) (al_p (fun a z => List.mem_of_mem_eraseIdx z) al_nil))) e77 (csi (imm_flat _))) ⟨csi (imm_flat _), trivial⟩ (fun q80 B79 H79 x79 n81 w79 => ?_)
        obtain ⟨r82, e83, hm⟩ := ob hm
        obtain ⟨b90, e91, hm⟩ := ob hm
        try dsimp only
        refine s_if w79 (et_orO (b := b90) (et_not (et_B ((ev_call0 (g := (book, shut, r76, place)) (ea_cons (ev_var (S := (rLst (rLst rInt)).s K book) rfl (Sv.mono _ x79 (Sv.mono _ x73 (Sv.mono _ x60 (Sv.mono _ x55 (Sv.mono _ x11 (Sv.mono _ x6 (Sv.mono _ x1 z1)))))))) (ea_cons (ev_var (S := (rLst rInt).s K shut) rfl (Sv.mono _ x79 (Sv.mono _ x73 (Sv.mono _ x60 (Sv.mono _ x55 (Sv.mono _ x11 (Sv.mono _ x6 (Sv.mono _ x1 z2)))))))) (ea_cons (ev_var (S := SA q80) rfl rfl) (ea_cons (ev_var (S := rInt.s K place) rfl (Sv.mono _ x79 (Sv.mono _ x73 (Sv.mono _ x60 (Sv.mono _ x55 (Sv.mono _ x11 (Sv.mono _ x6 (Sv.mono _ x1 z3)))))))) ea_nil)))) (al_p (fun _ z => z) (al_p (fun _ z => z) (al_o (R := (rLst rInt)) (xs := r76) 0 rfl rfl (List.mem_of_getElem? (i := 0) rfl) (fun _ z => z) (al_p (fun _ z => z) al_nil)))) e83).le g_s))) (fun hc => by have e91 := ie hc e91; obtain ⟨r84, e85, e91⟩ := ob e91; obtain ⟨r86, e87, e91⟩ := ob e91; obtain ⟨t88, e89, e91⟩ := ob e91; have hq_ := Option.some.inj e91; subst hq_; exact (et_test (ev_notin (ev_ix (ev_callXok (g := (r84, shut, r76, place)) (ea_cons (ev_call0 (g := book) (ea_cons (ev_var (S := (rLst (rLst rInt)).s K book) rfl (Sv.mono _ x79 (Sv.mono _ x73 (Sv.mono _ x60 (Sv.mono _ x55 (Sv.mono _ x11 (Sv.mono _ x6 (Sv.mono _ x1 z1)))))))) ea_nil) (al_p (fun _ z => z) al_nil) e85) (ea_cons (ev_list (ev_var (S := (rLst rInt).s K shut) rfl (Sv.mono _ x79 (Sv.mono _ x73 (Sv.mono _ x60 (Sv.mono _ x55 (Sv.mono _ x11 (Sv.mono _ x6 (Sv.mono _ x1 z2)))))))) src_p) (ea_cons (ev_var (S := SA q80) rfl rfl) (ea_cons (ev_var (S := rInt.s K place) rfl (Sv.mono _ x79 (Sv.mono _ x73 (Sv.mono _ x60 (Sv.mono _ x55 (Sv.mono _ x11 (Sv.mono _ x6 (Sv.mono _ x1 z3)))))))) ea_nil)))) (al_le llg_s (fun _ z => z) (al_le sn_s (fun _ z => z) (al_o (R := (rLst rInt)) (xs := r76) 0 rfl rfl (List.mem_of_getElem? (i := 0) rfl) (fun _ z => z) (al_p (fun _ z => z) al_nil)))) (okO_eq e87)) ev_int src_g e89) (ev_var (S := (rLst rInt).s K r9) rfl (Sv.mono _ x79 (Sv.mono _ x73 (Sv.mono _ x60 (Sv.mono _ x55 h13))))) src_p))) (fun hc => by have e91 := it hc e91; cases e91; exact ⟨rfl, rfl⟩)) (fun hb B92 H92 x92 w92 => ?_) (fun hb B92 H92 x92 w92 => ?_)
        · have hm := it hb hm
          refine s_ret w92 ev_bl (fun vv B93 H93 x93 w93 hv => ?_)
          cases hm
          obtain ⟨oz, gz1, _, gz3, gz4⟩ := w93.cell.get (i := 1) rfl rfl
          exact k _ _ _ oz w93.st w93.ex gz1 gz3 gz4 ((imm_flat _) _ _ _ _ _ hv)
        · have hm := ie hb hm
          obtain ⟨⟨r94, state96⟩, e95, hm⟩ := ob hm
          try dsimp only at hm
          obtain ⟨known97, e98, hm⟩ := ob hm
          refine s_set 0 rfl w92 ((ev_call1 (g := (state78, shut)) 1 rfl (ea_cons (ev_var (S := SA p0) rfl rfl) (ea_cons (ev_var (S := (rLst rInt).s K shut) rfl (Sv.mono _ x92 (Sv.mono _ x79 (Sv.mono _ x73 (Sv.mono _ x60 (Sv.mono _ x55 (Sv.mono _ x11 (Sv.mono _ x6 (Sv.mono _ x1 z2))))))))) ea_nil)) rfl (al_p (fun a z => List.mem_of_mem_eraseIdx z) (al_p (fun a z => List.mem_of_mem_eraseIdx z) al_nil)) e95 (csi (imm_flat _))).le g_s) (ev_var (S := SA q80) rfl rfl) (ev_var (S := rInt.s K place) rfl (Sv.mono _ x92 (Sv.mono _ x79 (Sv.mono _ x73 (Sv.mono _ x60 (Sv.mono _ x55 (Sv.mono _ x11 (Sv.mono _ x6 (Sv.mono _ x1 z3))))))))) rfl e98 (fun B99 H99 x99 w99 => ?_)
          obtain ⟨r100, e101, hm⟩ := ob hm
          obtain ⟨r102, e103, hm⟩ := ob hm
          obtain ⟨r104, e105, hm⟩ := ob hm
          obtain ⟨r106, e107, hm⟩ := ob hm
          refine s_ret w99 ((ev_call0 (g := (r102, [place, r104])) (ea_cons (ev_callXok (g := (r100, shut, known97, place)) (ea_cons (ev_call0 (g := book) (ea_cons (ev_var (S := (rLst (rLst rInt)).s K book) rfl (Sv.mono _ x99 (Sv.mono _ x92 (Sv.mono _ x79 (Sv.mono _ x73 (Sv.mono _ x60 (Sv.mono _ x55 (Sv.mono _ x11 (Sv.mono _ x6 (Sv.mono _ x1 z1)))))))))) ea_nil) (al_p (fun _ z => z) al_nil) e101) (ea_cons (ev_list (ev_var (S := (rLst rInt).s K shut) rfl (Sv.mono _ x99 (Sv.mono _ x92 (Sv.mono _ x79 (Sv.mono _ x73 (Sv.mono _ x60 (Sv.mono _ x55 (Sv.mono _ x11 (Sv.mono _ x6 (Sv.mono _ x1 z2)))))))))) src_p) (ea_cons (ev_var (S := SA q80) rfl rfl) (ea_cons (ev_var (S := rInt.s K place) rfl (Sv.mono _ x99 (Sv.mono _ x92 (Sv.mono _ x79 (Sv.mono _ x73 (Sv.mono _ x60 (Sv.mono _ x55 (Sv.mono _ x11 (Sv.mono _ x6 (Sv.mono _ x1 z3)))))))))) ea_nil)))) (al_le llg_s (fun _ z => z) (al_le sn_s (fun _ z => z) (al_o (R := (rLst rInt)) (xs := known97) 0 rfl rfl (List.mem_of_getElem? (i := 0) rfl) (fun _ z => z) (al_p (fun _ z => z) al_nil)))) (okO_eq e103)) (ea_cons (ev_lst (R := rInt) (xs := [place, r104]) (ea_cons (ev_var (S := rInt.s K place) rfl (Sv.mono _ x99 (Sv.mono _ x92 (Sv.mono _ x79 (Sv.mono _ x73 (Sv.mono _ x60 (Sv.mono _ x55 (Sv.mono _ x11 (Sv.mono _ x6 (Sv.mono _ x1 z3)))))))))) (ea_cons ((ev_call0 (g := (t4, shut)) (ea_cons (ev_var (S := (rLst rInt).s K t4) rfl (Sv.mono _ x99 (Sv.mono _ x92 (Sv.mono _ x79 (Sv.mono _ x73 (Sv.mono _ x60 (Sv.mono _ x55 (Sv.mono _ x11 h8)))))))) (ea_cons (ev_var (S := (rLst rInt).s K shut) rfl (Sv.mono _ x99 (Sv.mono _ x92 (Sv.mono _ x79 (Sv.mono _ x73 (Sv.mono _ x60 (Sv.mono _ x55 (Sv.mono _ x11 (Sv.mono _ x6 (Sv.mono _ x1 z2)))))))))) ea_nil)) (al_p (fun _ z => z) (al_p (fun _ z => z) al_nil)) e105).le g_s) ea_nil)) (by show 2 ≤ 1000; decide)) ea_nil)) (al_le g_s (fun _ z => z) (al_le sn_s (fun _ z => z) al_nil)) e107).le g_s) (fun vv B108 H108 x108 w108 hv => ?_)
          cases hm
          obtain ⟨oz, gz1, _, gz3, gz4⟩ := w108.cell.get (i := 1) rfl rfl
          exact k _ _ _ oz w108.st w108.ex gz1 gz3 gz4 ((imm_flat _) _ _ _ _ _ hv)
def m__law_refused : (List (List Int)) × (List Int) → Option (Tag × Int) := fun (book, kept) =>
  (m_arrows (book, kept)).bind fun rx => match rx with
  | .error r4 => (xM (xIs "BadBook" "place" r4) (fun n7 => (some (tg_book, n7))) (xM (xIs "BadPlace" "place" r4) (fun n17 => (some (tg_place, n17))) (xM (xIs "BadSize" "size" r4) (fun n27 => (some (tg_other, (0 : Int)))) (xM (xIs "BadNews" "place" r4) (fun n37 => (some (tg_other, (0 : Int)))) (none)))))
  | .ok r4 => (some (tg_let, (0 : Int)))
def p__law_refused (K : Fg) : Sp := Pr0 K (fun (g : (List (List Int)) × (List Int)) => [(rLst (rLst rInt)).s K g.1, (rLst rInt).s K g.2]) m__law_refused (rT2 rTag rInt)
abbrev N__law_refused : List Str := ["book", "kept", "told", "e"]
theorem sc__law_refused : FnScope N__law_refused ["book", "kept"] (defScope s__law_refused) := ⟨rfl, rfl, rfl, by decide +kernel, rfl, by decide +kernel, by decide +kernel⟩
theorem ok__law_refused {P : Program} {w : World} {K : Fg} {mg : Str → Option Value} {base : Heap} (T : Tx P K mg) {fd : FuncData} (F : FnP K "_law_refused" s__law_refused (He.ga K "_law_refused") fd) : FnOk P w K mg base (L2.CX P w) 4 (He.ga K "_law_refused") fd ["book", "kept"] (p__law_refused K) := by
  obtain ⟨fd_arrows, F_arrows⟩ := T.f_arrows
  have b_arrows : Binds K fd_arrows ["book", "kept"] [] := F_arrows.bindsN fun _ _ _ _ _ _ us hl => match us, hl with | [_, _], _ => rfl
  have G_arrows : FnOk P w K mg base (L2.CX P w) 3 (He.ga K "arrows") fd_arrows ["book", "kept"] (p_arrows K) := ok_arrows T F_arrows
  have sc := sc__law_refused
  refine F.ok sc (fun vs H Q E h => ?_) (fun cdv A outer s H vs Q E hr h => ?_)
  · obtain ⟨g, z, B, ss, _⟩ := h
    exact (Paired.length ss).trans rfl
  · obtain ⟨⟨book, kept⟩, z, B, ss, ex, hm, k⟩ := h
    obtain ⟨v0, v1, rfl, z0, z1⟩ := pn2 ss
    refine ⟨_, (pss_cons (ps_set (i := 2) sc.nd rfl (Or.inl rfl) (pe_tup (pa_cons pe_str (pa_cons pe_int pa_nil)))) (pss_cons (ps_try_hs rfl rfl tk0 (fun W pn xe tk_ _ => (pss_one (ps_expr (pe_callS G_arrows (hr.mono (by decide)) (by rfl) T.m_arrows F_arrows.kp b_arrows (fun σ_ => passAt tk_ σ_) (pa_cons (pv 0) (pa_cons (pv 1) pa_nil)))))) (HdA.a (i := 3) sc.nd rfl rfl ⟨by rfl, by decide, Or.inl T.g_BadBook⟩ (fun a oe cls d pn hz hf => (pss_one (ps_set (i := 2) sc.nd rfl (Or.inl rfl) (pe_tup (pa_cons pe_str (pa_cons (pe_xf (C := He.ga K "BadBook") T.xf_BadBook T.no_BadBook hz hf (pv 3)) pa_nil)))))) (HdA.a (i := 3) sc.nd rfl rfl ⟨by rfl, by decide, Or.inl T.g_BadPlace⟩ (fun a oe cls d pn hz hf => (pss_one (ps_set (i := 2) sc.nd rfl (Or.inl rfl) (pe_tup (pa_cons pe_str (pa_cons (pe_xf (C := He.ga K "BadPlace") T.xf_BadPlace T.no_BadPlace hz hf (pv 3)) pa_nil)))))) (HdA.p ⟨by rfl, by decide, Or.inl T.g_TiedError⟩ (fun a oe cls d pn hz hf => (pss_one (ps_set (i := 2) sc.nd rfl (Or.inl rfl) (pe_tup (pa_cons pe_str (pa_cons pe_int pa_nil)))))) HdA.nil)))) (pss_one (ps_ret (pv 2))))), ?_⟩
    have w := Wd.start (K := K) ex
    unfold m__law_refused at hm
    refine s_asg w (ev_T2 (ea_cons (ev_tag tg_let) (ea_cons ev_int ea_nil))) (fun w_v2 B1 H1 x1 w1 h3 => ?_)
    obtain ⟨r4, e5, hm⟩ := ob hm
    cases r4 with
    | error r4 =>
      try dsimp only [tAsg, tTup, tCons, tC, tDrop, tIfS, tTest, tOp, tB, tNot]
      refine callS w1 (ea_cons (ev_var (S := (rLst (rLst rInt)).s K book) rfl (Sv.mono _ x1 z0)) (ea_cons (ev_var (S := (rLst rInt).s K kept) rfl (Sv.mono _ x1 z1)) ea_nil)) (al_p (fun _ z => z) (al_p (fun _ z => z) al_nil)) e5 (fun cls d B6 H6 x6 w6 hx => ?_)
      cases hx8 : xIs "BadBook" "place" r4 with
      | some n7 =>
        replace hm := xM_some hx8 hm
        obtain rfl := xIs_eq hx8
        obtain ⟨rfl, dd10, rfl, hd9⟩ := hx
        refine wH_yesA T.x_BadBook_BadBook (fun a11 na12 => ?_)
        refine s_asg w6 (ev_T2 (ea_cons (ev_tag tg_book) (ea_cons (ev_fld (C := He.ga K "BadBook") (ev_var (S := SA a11) rfl rfl) hd9) ea_nil))) (fun w_v14 B13 H13 x13 w13 h15 => ?_)
        try dsimp only [goneE]
        refine s_ret w13 (ev_var (S := (rT2 rTag rInt).s K (tg_book, n7)) rfl h15) (fun vv B16 H16 x16 w16 hv => ?_)
        cases hm
        exact k _ _ _ w16.st w16.ex ((imm_T2 (imm_flat _) (imm_flat _)) _ _ _ _ _ hv)
      | none =>
        replace hm := xM_none hx8 hm
        cases hx18 : xIs "BadPlace" "place" r4 with
        | some n17 =>
          replace hm := xM_some hx18 hm
          obtain rfl := xIs_eq hx18
          obtain ⟨rfl, dd20, rfl, hd19⟩ := hx
          refine wH_noA T.x_BadPlace_BadBook ?_
          refine wH_yesA T.x_BadPlace_BadPlace (fun a21 na22 => ?_)
          refine s_asg w6 (ev_T2 (ea_cons (ev_tag tg_place) (ea_cons (ev_fld (C := He.ga K "BadPlace") (ev_var (S := SA a21) rfl rfl) hd19) ea_nil))) (fun w_v24 B23 H23 x23 w23 h25 => ?_)
          try dsimp only [goneE]
          refine s_ret w23 (ev_var (S := (rT2 rTag rInt).s K (tg_place, n17)) rfl h25) (fun vv B26 H26 x26 w26 hv => ?_)
          cases hm
          exact k _ _ _ w26.st w26.ex ((imm_T2 (imm_flat _) (imm_flat _)) _ _ _ _ _ hv)
        | none =>
          replace hm := xM_none hx18 hm
          cases hx28 : xIs "BadSize" "size" r4 with
          | some n27 =>
            replace hm := xM_some hx28 hm
            obtain rfl := xIs_eq hx28
            obtain ⟨rfl, dd30, rfl, hd29⟩ := hx
            refine wH_noA T.x_BadSize_BadBook ?_
            refine wH_noA T.x_BadSize_BadPlace ?_
            refine wH_yes T.x_BadSize_TiedError (fun a31 na32 => ?_)
            refine s_asg w6 (ev_T2 (ea_cons (ev_tag tg_other) (ea_cons ev_int ea_nil))) (fun w_v34 B33 H33 x33 w33 h35 => ?_)
            try dsimp only [goneE]
            refine s_ret w33 (ev_var (S := (rT2 rTag rInt).s K (tg_other, (0 : Int))) rfl h35) (fun vv B36 H36 x36 w36 hv => ?_)
            cases hm
            exact k _ _ _ w36.st w36.ex ((imm_T2 (imm_flat _) (imm_flat _)) _ _ _ _ _ hv)
          | none =>
            replace hm := xM_none hx28 hm
            cases hx38 : xIs "BadNews" "place" r4 with
            | some n37 =>
              replace hm := xM_some hx38 hm
              obtain rfl := xIs_eq hx38
              obtain ⟨rfl, dd40, rfl, hd39⟩ := hx
              refine wH_noA T.x_BadNews_BadBook ?_
              refine wH_noA T.x_BadNews_BadPlace ?_
              refine wH_yes T.x_BadNews_TiedError (fun a41 na42 => ?_)
              refine s_asg w6 (ev_T2 (ea_cons (ev_tag tg_other) (ea_cons ev_int ea_nil))) (fun w_v44 B43 H43 x43 w43 h45 => ?_)
              try dsimp only [goneE]
              refine s_ret w43 (ev_var (S := (rT2 rTag rInt).s K (tg_other, (0 : Int))) rfl h45) (fun vv B46 H46 x46 w46 hv => ?_)
              cases hm
              exact k _ _ _ w46.st w46.ex ((imm_T2 (imm_flat _) (imm_flat _)) _ _ _ _ _ hv)
            | none =>
              replace hm := xM_none hx38 hm
              cases hm
    | ok r4 =>
      refine s_drop w1 (ev_callSok (g := (book, kept)) (ea_cons (ev_var (S := (rLst (rLst rInt)).s K book) rfl (Sv.mono _ x1 z0)) (ea_cons (ev_var (S := (rLst rInt).s K kept) rfl (Sv.mono _ x1 z1)) ea_nil)) (al_p (fun _ z => z) (al_p (fun _ z => z) al_nil)) e5) (fun B47 H47 x47 w47 => ?_)
      refine s_ret w47 (ev_var (S := (rT2 rTag rInt).s K (tg_let, (0 : Int))) rfl (Sv.mono _ x47 h3)) (fun vv B48 H48 x48 w48 hv => ?_)
      cases hm
      exact k _ _ _ w48.st w48.ex ((imm_T2 (imm_flat _) (imm_flat _)) _ _ _ _ _ hv)
def m__law_refusals_right : (List Int) × (List (List Int)) × (List Int) → Option (Bool × (List Int)) := fun (state, book, kept) =>
  (m__law_bad_book (state, book)).bind fun (r4, state6) =>
  (m__law_bad_list (state6, kept, (book.length : Int))).bind fun (r10, state12) =>
  (rngO (0 : Int) (17 : Int)).bind fun xs16 =>
  (lcO (fun (place : Int) (rr : Unit) => match rr with | () => some (true, ())) (fun (place : Int) (rr : Unit) => match rr with | () => some (([] : List Int), ())) xs16 ()).bind fun (ys18, _) =>
  (m__law_pick (state12, (2 : Int))).bind fun (r20, state22) =>
  (atI [ys18, ([] : List (List Int))] r20).bind fun t23 =>
  (m__law_refused (r4.2, r10.2)).bind fun r28 =>
  (cond (!decide (r28 = (tg_book, r4.1))) (some true) ((m__law_refused (r4.2, kept)).bind fun r30 => some (!decide (r30 = (tg_book, r4.1))))).bind fun b32 =>
  cond b32 (some (false, state22)) ((m__law_refused (t23, r10.2)).bind fun r36 =>
  (cond (!decide (r36 = (tg_book, (-(1 : Int))))) (some true) ((m__law_copy book).bind fun r38 => (m__law_refused (r38, r10.2)).bind fun r40 => some (!decide (r40 = (tg_place, r10.1))))).bind fun b42 =>
  cond b42 (some (false, state22)) ((m__law_copy book).bind fun r46 =>
  (m__law_refused (r46, kept)).bind fun r48 =>
  some ((decide (r48 = (tg_let, (0 : Int)))), state22)))
def p__law_refusals_right (K : Fg) : Sp := Pr1 K (fun (g : (List Int) × (List (List Int)) × (List Int)) p => [SA p, (rLst (rLst rInt)).s K g.2.1, (rLst rInt).s K g.2.2]) (fun g => CL rInt K g.1) m__law_refusals_right (fun e => CL rInt K e) rBool
abbrev N__law_refusals_right : List Str := ["state", "book", "kept", "size", "found", "passed", "none", "place"]
theorem sc__law_refusals_right : FnScope N__law_refusals_right ["state", "book", "kept"] (defScope s__law_refusals_right) := ⟨rfl, rfl, rfl, by decide +kernel, rfl, by decide +kernel, by decide +kernel⟩
theorem ok__law_refusals_right {P : Program} {w : World} {K : Fg} {mg : Str → Option Value} {base : Heap} (T : Tx P K mg) {fd : FuncData} (F : FnP K "_law_refusals_right" s__law_refusals_right (He.ga K "_law_refusals_right") fd) : FnOk P w K mg base (L2.CX P w) 5 (He.ga K "_law_refusals_right") fd ["state", "book", "kept"] (p__law_refusals_right K) := by
  obtain ⟨fd__law_bad_book, F__law_bad_book⟩ := T.f__law_bad_book
  have b__law_bad_book : Binds K fd__law_bad_book ["state", "book"] [] := F__law_bad_book.bindsN fun _ _ _ _ _ _ us hl => match us, hl with | [_, _], _ => rfl
  have G__law_bad_book : FnOk P w K mg base (L2.CX P w) 3 (He.ga K "_law_bad_book") fd__law_bad_book ["state", "book"] (p__law_bad_book K) := ok__law_bad_book T F__law_bad_book
  obtain ⟨fd__law_bad_list, F__law_bad_list⟩ := T.f__law_bad_list
  have b__law_bad_list : Binds K fd__law_bad_list ["state", "row", "size"] [] := F__law_bad_list.bindsN fun _ _ _ _ _ _ us hl => match us, hl with | [_, _, _], _ => rfl
  have G__law_bad_list : FnOk P w K mg base (L2.CX P w) 3 (He.ga K "_law_bad_list") fd__law_bad_list ["state", "row", "size"] (p__law_bad_list K) := ok__law_bad_list T F__law_bad_list
  obtain ⟨fd__law_copy, F__law_copy⟩ := T.f__law_copy
  have b__law_copy : Binds K fd__law_copy ["table"] [] := F__law_copy.bindsN fun _ _ _ _ _ _ us hl => match us, hl with | [_], _ => rfl
  have G__law_copy : FnOk P w K mg base (L2.CX P w) 1 (He.ga K "_law_copy") fd__law_copy ["table"] (p__law_copy K) := ok__law_copy T F__law_copy
  obtain ⟨fd__law_pick, F__law_pick⟩ := T.f__law_pick
  have b__law_pick : Binds K fd__law_pick ["state", "many"] [] := F__law_pick.bindsN fun _ _ _ _ _ _ us hl => match us, hl with | [_, _], _ => rfl
  have G__law_pick : FnOk P w K mg base (L2.CX P w) 1 (He.ga K "_law_pick") fd__law_pick ["state", "many"] (p__law_pick K) := ok__law_pick T F__law_pick
  obtain ⟨fd__law_refused, F__law_refused⟩ := T.f__law_refused
  have b__law_refused : Binds K fd__law_refused ["book", "kept"] [] := F__law_refused.bindsN fun _ _ _ _ _ _ us hl => match us, hl with | [_, _], _ => rfl
  have G__law_refused : FnOk P w K mg base (L2.CX P w) 4 (He.ga K "_law_refused") fd__law_refused ["book", "kept"] (p__law_refused K) := ok__law_refused T F__law_refused
  have sc := sc__law_refusals_right
  refine F.ok sc (fun vs H Q E h => ?_) (fun cdv A outer s H vs Q E hr h => ?_)
  · obtain ⟨g, p, z, B, o, ss, _⟩ := h
    exact (Paired.length ss).trans rfl
  · obtain ⟨⟨state, book, kept⟩, p0, z, B, o, ss, ex, h1, h2, h3, h4, hm, k⟩ := h
    obtain ⟨v0, v1, v2, rfl, z0, z1, z2⟩ := pn3 ss
    cases (show _ = V.ref p0 from z0)
    have hu := hr.units
    refine ⟨_, (pss_cons (ps_set (i := 3) sc.nd rfl (Or.inl rfl) (pe_callB (clen (K := K) rfl) (by rfl) T.b_len (by decide +kernel) (pa_cons (pv 1) pa_nil))) (pss_cons (ps_set (i := 4) sc.nd rfl (Or.inl rfl) (pe_call G__law_bad_book (hr.mono (by decide)) (by rfl) T.m__law_bad_book F__law_bad_book.kp b__law_bad_book .nil passL (pa_cons (pv 0) (pa_cons (pv 1) pa_nil)))) (pss_cons (ps_set (i := 5) sc.nd rfl (Or.inl rfl) (pe_call G__law_bad_list (hr.mono (by decide)) (by rfl) T.m__law_bad_list F__law_bad_list.kp b__law_bad_list .nil passL (pa_cons (pv 0) (pa_cons (pv 2) (pa_cons (pv 3) pa_nil))))) (pss_cons (ps_set (i := 6) sc.nd rfl (Or.inl rfl) (pe_ix (ixl (K := K) rfl) (pe_lst (pa_cons (pe_lc (own := [("place", 7)]) (g := (gName 7)) (by rfl) sc.nd (pi_range1 (by rfl) T.b_range (pa_cons pe_int pa_nil)) (blkOk_by (own := [("place", 7)]) (N := N__law_refusals_right) (sc := defScope s__law_refusals_right) (by decide +kernel)) (fun _ _ _ _ _ => pg_name (i := 7) sc.nd rfl (Or.inl rfl)) (fun _ _ _ _ _ => pts_nil) (fun _ _ _ _ _ => (pe_lst pa_nil))) (pa_cons (pe_lst pa_nil) pa_nil))) (pe_call G__law_pick (hr.mono (by decide)) (by rfl) T.m__law_pick F__law_pick.kp b__law_pick .nil passL (pa_cons (pv 0) (pa_cons pe_int pa_nil))) (fun _ _ => rfl))) (pss_cons (ps_if (PW.pt (pw_or (pt_cmpR (opneD (K := K) rfl hu) (pe_call G__law_refused (hr.mono (by decide)) (by rfl) T.m__law_refused F__law_refused.kp b__law_refused .nil passL (pa_cons (pe_ix (ixt (K := K) rfl) (pv 4) pe_int (fun _ _ => rfl)) (pa_cons (pe_ix (ixt (K := K) rfl) (pv 5) pe_int (fun _ _ => rfl)) pa_nil))) (pe_tup (pa_cons pe_str (pa_cons (pe_ix (ixt (K := K) rfl) (pv 4) pe_int (fun _ _ => rfl)) pa_nil))) (nomark _)) (pw_or1 (pt_cmpR (opneD (K := K) rfl hu) (pe_call G__law_refused (hr.mono (by decide)) (by rfl) T.m__law_refused F__law_refused.kp b__law_refused .nil passL (pa_cons (pe_ix (ixt (K := K) rfl) (pv 4) pe_int (fun _ _ => rfl)) (pa_cons (pv 2) pa_nil))) (pe_tup (pa_cons pe_str (pa_cons (pe_ix (ixt (K := K) rfl) (pv 4) pe_int (fun _ _ => rfl)) pa_nil))) (nomark _))))) (pss_one (ps_ret pe_bl)) pss_nil) (pss_cons (ps_if (PW.pt (pw_or (pt_cmpR (opneD (K := K) rfl hu) (pe_call G__law_refused (hr.mono (by decide)) (by rfl) T.m__law_refused F__law_refused.kp b__law_refused .nil passL (pa_cons (pv 6) (pa_cons (pe_ix (ixt (K := K) rfl) (pv 5) pe_int (fun _ _ => rfl)) pa_nil))) (pe_tup (pa_cons pe_str (pa_cons (pe_un un_neg pe_int) pa_nil))) (nomark _)) (pw_or1 (pt_cmpR (opneD (K := K) rfl hu) (pe_call G__law_refused (hr.mono (by decide)) (by rfl) T.m__law_refused F__law_refused.kp b__law_refused .nil passL (pa_cons (pe_call G__law_copy (hr.mono (by decide)) (by rfl) T.m__law_copy F__law_copy.kp b__law_copy .nil passL (pa_cons (pv 1) pa_nil)) (pa_cons (pe_ix (ixt (K := K) rfl) (pv 5) pe_int (fun _ _ => rfl)) pa_nil))) (pe_tup (pa_cons pe_str (pa_cons (pe_ix (ixt (K := K) rfl) (pv 5) pe_int (fun _ _ => rfl)) pa_nil))) (nomark _))))) (pss_one (ps_ret pe_bl)) pss_nil) (pss_one (ps_ret (pe_cmpR (opeqD (K := K) rfl hu) (pe_call G__law_refused (hr.mono (by decide)) (by rfl) T.m__law_refused F__law_refused.kp b__law_refused .nil passL (pa_cons (pe_call G__law_copy (hr.mono (by decide)) (by rfl) T.m__law_copy F__law_copy.kp b__law_copy .nil passL (pa_cons (pv 1) pa_nil)) (pa_cons (pe_callTy (clst (K := K) rfl) (by rfl) T.b_list (by decide +kernel) (pa_cons (pv 2) pa_nil)) pa_nil))) (pe_tup (pa_cons pe_str (pa_cons pe_int pa_nil))) (nomark _)))))))))), ?_⟩
    have w := Wd.start1 (K := K) ex h1 h2 h3 h4
    unfold m__law_refusals_right at hm
    refine s_asg w (ev_len (ev_var (S := (rLst (rLst rInt)).s K book) rfl z1) src_p) (fun w_v2 B1 H1 x1 w1 h3 => ?_)
    obtain ⟨⟨r4, state6⟩, e5, hm⟩ := ob hm
    try dsimp only at hm
    refine s_asg w1 (ev_call1a (g := (state, book)) 0 rfl (ea_cons (ev_var (S := SA p0) rfl rfl) (ea_cons (ev_var (S := (rLst (rLst rInt)).s K book) rfl (Sv.mono _ x1 z1)) ea_nil)) rfl (al_p (fun _ z => absurd z List.not_mem_nil) (al_p (fun _ z => absurd z List.not_mem_nil) al_nil)) e5) (fun w_v8 B7 H7 x7 w7 h9 => ?_)
    obtain ⟨⟨r10, state12⟩, e11, hm⟩ := ob hm
    try dsimp only at hm
    refine s_asg w7 (ev_call1a (g := (state6, kept, (book.length : Int))) 0 rfl (ea_cons (ev_var (S := SA p0) rfl rfl) (ea_cons (ev_var (S := (rLst rInt).s K kept) rfl (Sv.mono _ x7 (Sv.mono _ x1 z2))) (ea_cons (ev_var (S := rInt.s K (book.length : Int)) rfl (Sv.mono _ x7 h3)) ea_nil))) rfl (al_p (fun _ z => absurd z List.not_mem_nil) (al_p (fun _ z => absurd z List.not_mem_nil) (al_p (fun _ z => absurd z List.not_mem_nil) al_nil))) e11) (fun w_v14 B13 H13 x13 w13 h15 => ?_)
    obtain ⟨xs16, e17, hm⟩ := ob hm
    obtain ⟨⟨ys18, _⟩, e19, hm⟩ := ob hm
    try dsimp only at hm
    obtain ⟨⟨r20, state22⟩, e21, hm⟩ := ob hm
    try dsimp only at hm
    obtain ⟨t23, e24, hm⟩ := ob hm
    refine s_asg w13 (ev_ix (ev_lst (R := (rLst (rLst rInt))) (xs := [ys18, ([] : List (List Int))]) (ea_cons ((ev_lc (R := rInt) (R' := (rLst rInt)) (oo := (fun (rr : Unit) => [CL rInt K state12])) (fun (place : Int) (rr : Unit) => match rr with | () => some (true, ())) (fun (place : Int) (rr : Unit) => match rr with | () => some (([] : List Int), ())) (lcT rInt K _ 7 [7]) (ei_r1 ev_int e17) e19 (lcT_mono _ _ _ _ _) (lcT_name rfl 7 [7] (by intro x; rfl)) (fun place rr bb r1 σ2 B' pD acc ht eB ⟨vx, hσ, hx⟩ => by cases ht; exact et_yes) (fun place rr yy r1 σ2 B' pD acc he eB ⟨vx, hσ, hx⟩ => by subst hσ; cases he; exact ((ev_lst (R := rInt) (xs := []) ea_nil (by decide)).le sn_s))).le sn_s) (ea_cons ((ev_lst (R := (rLst rInt)) (xs := []) ea_nil (by decide)).le sn_s) ea_nil)) (by show 2 ≤ 1000; decide)) ((ev_call1 (g := (state12, (2 : Int))) 0 rfl (ea_cons (ev_var (S := SA p0) rfl rfl) (ea_cons ev_int ea_nil)) rfl (al_p (fun a z => List.mem_of_mem_eraseIdx z) (al_p (fun a z => List.mem_of_mem_eraseIdx z) al_nil)) e21 (csi (imm_flat _))).le g_s) src_n e24) (fun w_v26 B25 H25 x25 w25 h27 => ?_)
    obtain ⟨r28, e29, hm⟩ := ob hm
    obtain ⟨b32, e33, hm⟩ := ob hm
    try dsimp only
    refine s_if w25 (et_orO (b := b32) (et_test (ev_neD (dqT2 dqTag dqInt) ((ev_call0 (g := (r4.2, r10.2)) (ea_cons (ev_T2b (ev_var (S := (rT2 rInt (rLst (rLst rInt))).s K r4) rfl (Sv.mono _ x25 (Sv.mono _ x13 h9)))) (ea_cons (ev_T2b (ev_var (S := (rT2 rInt (rLst rInt)).s K r10) rfl (Sv.mono _ x25 h15))) ea_nil)) (al_p (fun _ z => z) (al_p (fun _ z => z) al_nil)) e29).le g_s) (ev_T2 (ea_cons (ev_tag tg_book) (ea_cons (ev_T2a (ev_var (S := (rT2 rInt (rLst (rLst rInt))).s K r4) rfl (Sv.mono _ x25 (Sv.mono _ x13 h9)))) ea_nil))) srd_s srd_s)) (fun hc => by have e33 := ie hc e33; obtain ⟨r30, e31, e33⟩ := ob e33; have hq_ := Option.some.inj e33; subst hq_; exact (et_test (ev_neD (dqT2 dqTag dqInt) ((ev_call0 (g := (r4.2, kept)) (ea_cons (ev_T2b (ev_var (S := (rT2 rInt (rLst (rLst rInt))).s K r4) rfl (Sv.mono _ x25 (Sv.mono _ x13 h9)))) (ea_cons (ev_var (S := (rLst rInt).s K kept) rfl (Sv.mono _ x25 (Sv.mono _ x13 (Sv.mono _ x7 (Sv.mono _ x1 z2))))) ea_nil)) (al_p (fun _ z => z) (al_p (fun _ z => z) al_nil)) e31).le g_s) (ev_T2 (ea_cons (ev_tag tg_book) (ea_cons (ev_T2a (ev_var (S := (rT2 rInt (rLst (rLst rInt))).s K r4) rfl (Sv.mono _ x25 (Sv.mono _ x13 h9)))) ea_nil))) srd_s srd_s))) (fun hc => by have e33 := it hc e33; cases e33; exact ⟨rfl, rfl⟩)) (fun hb B34 H34 x34 w34 => ?_) (fun hb B34 H34 x34 w34 => ?_)
    · have hm := it hb hm
      refine s_ret w34 ev_bl (fun vv B35 H35 x35 w35 hv => ?_)
      cases hm
      obtain ⟨oz, gz1, _, gz3, gz4⟩ := w35.cell.get (i := 0) rfl rfl
      exact k _ _ _ oz w35.st w35.ex gz1 gz3 gz4 ((imm_flat _) _ _ _ _ _ hv)
    · have hm := ie hb hm
      obtain ⟨r36, e37, hm⟩ := ob hm
      obtain ⟨b42, e43, hm⟩ := ob hm
      try dsimp only
      refine s_if w34 (et_orO (b := b42) (et_test (ev_neD (dqT2 dqTag dqInt) ((ev_call0 (g := (t23, r10.2)) (ea_cons (ev_var (S := (rLst (rLst rInt)).s K t23) rfl (Sv.mono _ x34 h27)) (ea_cons (ev_T2b (ev_var (S := (rT2 rInt (rLst rInt)).s K r10) rfl (Sv.mono _ x34 (Sv.mono _ x25 h15)))) ea_nil)) (al_p (fun _ z => z) (al_p (fun _ z => z) al_nil)) e37).le g_s) (ev_T2 (ea_cons (ev_tag tg_book) (ea_cons (ev_neg ev_int) ea_nil))) srd_s srd_s)) (fun hc => by have e43 := ie hc e43; obtain ⟨r38, e39, e43⟩ := ob e43; obtain ⟨r40, e41, e43⟩ := ob e43; have hq_ := Option.some.inj e43; subst hq_; exact (et_test (ev_neD (dqT2 dqTag dqInt) ((ev_call0 (g := (r38, r10.2)) (ea_cons (ev_call0 (g := book) (ea_cons (ev_var (S := (rLst (rLst rInt)).s K book) rfl (Sv.mono _ x34 (Sv.mono _ x25 (Sv.mono _ x13 (Sv.mono _ x7 (Sv.mono _ x1 z1)))))) ea_nil) (al_p (fun _ z => z) al_nil) e39) (ea_cons (ev_T2b (ev_var (S := (rT2 rInt (rLst rInt)).s K r10) rfl (Sv.mono _ x34 (Sv.mono _ x25 h15)))) ea_nil)) (al_le llg_s (fun _ z => z) (al_p (fun _ z => z) al_nil)) e41).le g_s) (ev_T2 (ea_cons (ev_tag tg_place) (ea_cons (ev_T2a (ev_var (S := (rT2 rInt (rLst rInt)).s K r10) rfl (Sv.mono _ x34 (Sv.mono _ x25 h15)))) ea_nil))) srd_s srd_s))) (fun hc => by have e43 := it hc e43; cases e43; exact ⟨rfl, rfl⟩)) (fun hb B44 H44 x44 w44 => ?_) (fun hb B44 H44 x44 w44 => ?_)
      · have hm := it hb hm
        refine s_ret w44 ev_bl (fun vv B45 H45 x45 w45 hv => ?_)
        cases hm
        obtain ⟨oz, gz1, _, gz3, gz4⟩ := w45.cell.get (i := 0) rfl rfl
        exact k _ _ _ oz w45.st w45.ex gz1 gz3 gz4 ((imm_flat _) _ _ _ _ _ hv)
      · have hm := ie hb hm
        obtain ⟨r46, e47, hm⟩ := ob hm
        obtain ⟨r48, e49, hm⟩ := ob hm
        refine s_ret w44 (ev_eqD (dqT2 dqTag dqInt) ((ev_call0 (g := (r46, kept)) (ea_cons (ev_call0 (g := book) (ea_cons (ev_var (S := (rLst (rLst rInt)).s K book) rfl (Sv.mono _ x44 (Sv.mono _ x34 (Sv.mono _ x25 (Sv.mono _ x13 (Sv.mono _ x7 (Sv.mono _ x1 z1))))))) ea_nil) (al_p (fun _ z => z) al_nil) e47) (ea_cons (ev_list (ev_var (S := (rLst rInt).s K kept) rfl (Sv.mono _ x44 (Sv.mono _ x34 (Sv.mono _ x25 (Sv.mono _ x13 (Sv.mono _ x7 (Sv.mono _ x1 z2))))))) src_p) ea_nil)) (al_le llg_s (fun _ z => z) (al_le sn_s (fun _ z => z) al_nil)) e49).le g_s) (ev_T2 (ea_cons (ev_tag tg_let) (ea_cons ev_int ea_nil))) srd_s srd_s) (fun vv B50 H50 x50 w50 hv => ?_)
        cases hm
        obtain ⟨oz, gz1, _, gz3, gz4⟩ := w50.cell.get (i := 0) rfl rfl
        exact k _ _ _ oz w50.st w50.ex gz1 gz3 gz4 ((imm_flat _) _ _ _ _ _ hv)
def m_law : (List Int) → Option (Bool) := fun script =>
  (m__law_seed (script, (0 : Int))).bind fun r1 =>
  (m__law_size (r1, (6 : Int), (16 : Int))).bind fun (r3, tmp5) =>
  (m__law_seed (script, (1 : Int))).bind fun r9 =>
  (m__law_book (r9, r3)).bind fun (r11, tmp13) =>
  (m__law_seed (script, (2 : Int))).bind fun r17 =>
  (rngO (0 : Int) r3).bind fun t19 =>
  (m__law_few (r17, t19)).bind fun (r21, tmp23) =>
  (rngO (0 : Int) r3).bind fun xs27 =>
  (lcO (fun (place : Int) (rr : Unit) => match rr with | () => some ((!decide (place ∈ r21)), ())) (fun (place : Int) (rr : Unit) => match rr with | () => some (place, ())) xs27 ()).bind fun (ys29, _) =>
  (m__law_arrows_right (r11, r21, ys29)).bind fun r34 =>
  cond (!r34) (some false) ((m__law_seed (script, (3 : Int))).bind fun r38 =>
  (m__law_seed (script, (4 : Int))).bind fun r43 =>
  (rngO (0 : Int) r3).bind fun t48 =>
  (m__law_shuffled (r43, t48)).bind fun (r50, grows52) =>
  finK (fun (rr : (List Int) × (List Int)) => match rr with | (news56, grows57) => ((m__law_seed (script, (5 : Int))).bind fun r83 =>
  (m__law_refusals_right (r83, r11, r21)).bind fun (r85, tmp87) =>
  some r85)) (fun (tt : Bool) => some tt) (forL (fun (place59 : Int) (rr : (List Int) × (List Int)) => (match rr with | (news56, grows57) => ((m__law_ahead_right (r11, place59)).bind fun r60 =>
  (cond (!r60) (some (true, grows57)) ((m__law_opens_right (grows57, r11, place59)).bind fun (r62, grows64) => some ((!r62), grows64))).bind fun (b65, grows67) =>
  cond b65 (some (.rt false)) ((cond (decide (place59 ∈ ys29)) ((m__law_shuffled (news56, ys29)).bind fun (r70, news72) => (m__law_moves_right (news72, r11, r70, place59)).bind fun (r73, news75) => some ((!r73), news75)) (some (false, news56))).bind fun (b76, news78) =>
  cond b76 (some (.rt false)) (some (.nx (news78, grows67))))) : Option (Ctl ((List Int) × (List Int)) Bool))) (cut r50 none (some (6 : Int))) (r38, grows52)))
def p_law (K : Fg) : Sp := Pr0 K (fun (g : (List Int)) => [rScr.s K g]) m_law rBool
abbrev N_law : List Str := ["script", "size", "book", "kept", "shut", "place", "news", "grows", "asked"]
theorem sc_law : FnScope N_law ["script"] (defScope s_law) := ⟨rfl, rfl, rfl, by decide +kernel, rfl, by decide +kernel, by decide +kernel⟩
theorem ok_law {P : Program} {w : World} {K : Fg} {mg : Str → Option Value} {base : Heap} (T : Tx P K mg) {fd : FuncData} (F : FnP K "law" s_law (He.ga K "law") fd) : FnOk P w K mg base (L2.CX P w) 7 (He.ga K "law") fd ["script"] (p_law K) := by
  obtain ⟨fd__law_ahead_right, F__law_ahead_right⟩ := T.f__law_ahead_right
  have b__law_ahead_right : Binds K fd__law_ahead_right ["book", "place"] [] := F__law_ahead_right.bindsN fun _ _ _ _ _ _ us hl => match us, hl with | [_, _], _ => rfl
  have G__law_ahead_right : FnOk P w K mg base (L2.CX P w) 4 (He.ga K "_law_ahead_right") fd__law_ahead_right ["book", "place"] (p__law_ahead_right K) := ok__law_ahead_right T F__law_ahead_right
  obtain ⟨fd__law_arrows_right, F__law_arrows_right⟩ := T.f__law_arrows_right
  have b__law_arrows_right : Binds K fd__law_arrows_right ["book", "kept", "shut"] [] := F__law_arrows_right.bindsN fun _ _ _ _ _ _ us hl => match us, hl with | [_, _, _], _ => rfl
  have G__law_arrows_right : FnOk P w K mg base (L2.CX P w) 4 (He.ga K "_law_arrows_right") fd__law_arrows_right ["book", "kept", "shut"] (p__law_arrows_right K) := ok__law_arrows_right T F__law_arrows_right
  obtain ⟨fd__law_book, F__law_book⟩ := T.f__law_book
  have b__law_book : Binds K fd__law_book ["state", "size"] [] := F__law_book.bindsN fun _ _ _ _ _ _ us hl => match us, hl with | [_, _], _ => rfl
  have G__law_book : FnOk P w K mg base (L2.CX P w) 6 (He.ga K "_law_book") fd__law_book ["state", "size"] (p__law_book K) := ok__law_book T F__law_book
  obtain ⟨fd__law_few, F__law_few⟩ := T.f__law_few
  have b__law_few : Binds K fd__law_few ["state", "row"] [] := F__law_few.bindsN fun _ _ _ _ _ _ us hl => match us, hl with | [_, _], _ => rfl
  have G__law_few : FnOk P w K mg base (L2.CX P w) 3 (He.ga K "_law_few") fd__law_few ["state", "row"] (p__law_few K) := ok__law_few T F__law_few
  obtain ⟨fd__law_moves_right, F__law_moves_right⟩ := T.f__law_moves_right
  have b__law_moves_right : Binds K fd__law_moves_right ["state", "book", "shut", "place"] [] := F__law_moves_right.bindsN fun _ _ _ _ _ _ us hl => match us, hl with | [_, _, _, _], _ => rfl
  have G__law_moves_right : FnOk P w K mg base (L2.CX P w) 5 (He.ga K "_law_moves_right") fd__law_moves_right ["state", "book", "shut", "place"] (p__law_moves_right K) := ok__law_moves_right T F__law_moves_right
  obtain ⟨fd__law_opens_right, F__law_opens_right⟩ := T.f__law_opens_right
  have b__law_opens_right : Binds K fd__law_opens_right ["state", "book", "place"] [] := F__law_opens_right.bindsN fun _ _ _ _ _ _ us hl => match us, hl with | [_, _, _], _ => rfl
  have G__law_opens_right : FnOk P w K mg base (L2.CX P w) 4 (He.ga K "_law_opens_right") fd__law_opens_right ["state", "book", "place"] (p__law_opens_right K) := ok__law_opens_right T F__law_opens_right
  obtain ⟨fd__law_refusals_right, F__law_refusals_right⟩ := T.f__law_refusals_right
  have b__law_refusals_right : Binds K fd__law_refusals_right ["state", "book", "kept"] [] := F__law_refusals_right.bindsN fun _ _ _ _ _ _ us hl => match us, hl with | [_, _, _], _ => rfl
  have G__law_refusals_right : FnOk P w K mg base (L2.CX P w) 5 (He.ga K "_law_refusals_right") fd__law_refusals_right ["state", "book", "kept"] (p__law_refusals_right K) := ok__law_refusals_right T F__law_refusals_right
  obtain ⟨fd__law_seed, F__law_seed⟩ := T.f__law_seed
  have b__law_seed : Binds K fd__law_seed ["script", "at"] [] := F__law_seed.bindsN fun _ _ _ _ _ _ us hl => match us, hl with | [_, _], _ => rfl
  have G__law_seed : FnOk P w K mg base (L2.CX P w) 1 (He.ga K "_law_seed") fd__law_seed ["script", "at"] (p__law_seed K) := ok__law_seed T F__law_seed
  obtain ⟨fd__law_shuffled, F__law_shuffled⟩ := T.f__law_shuffled
  have b__law_shuffled : Binds K fd__law_shuffled ["state", "row"] [] := F__law_shuffled.bindsN fun _ _ _ _ _ _ us hl => match us, hl with | [_, _], _ => rfl
  have G__law_shuffled : FnOk P w K mg base (L2.CX P w) 2 (He.ga K "_law_shuffled") fd__law_shuffled ["state", "row"] (p__law_shuffled K) := ok__law_shuffled T F__law_shuffled
  obtain ⟨fd__law_size, F__law_size⟩ := T.f__law_size
  have b__law_size : Binds K fd__law_size ["state", "usual", "most"] [] := F__law_size.bindsN fun _ _ _ _ _ _ us hl => match us, hl with | [_, _, _], _ => rfl
  have G__law_size : FnOk P w K mg base (L2.CX P w) 2 (He.ga K "_law_size") fd__law_size ["state", "usual", "most"] (p__law_size K) := ok__law_size T F__law_size
  have sc := sc_law
  refine F.ok sc (fun vs H Q E h => ?_) (fun cdv A outer s H vs Q E hr h => ?_)
  · obtain ⟨g, z, B, ss, _⟩ := h
    exact (Paired.length ss).trans rfl
  · obtain ⟨script, z, B, ss, ex, hm, k⟩ := h
    obtain ⟨v0, rfl, z0⟩ := pn1 ss
    refine ⟨_, (pss_cons (ps_set (i := 1) sc.nd rfl (Or.inl rfl) (pe_call G__law_size (hr.mono (by decide)) (by rfl) T.m__law_size F__law_size.kp b__law_size .nil passL (pa_cons (pe_call G__law_seed (hr.mono (by decide)) (by rfl) T.m__law_seed F__law_seed.kp b__law_seed .nil passL (pa_cons (pv 0) (pa_cons pe_int pa_nil))) (pa_cons pe_int (pa_cons pe_int pa_nil))))) (pss_cons (ps_set (i := 2) sc.nd rfl (Or.inl rfl) (pe_call G__law_book (hr.mono (by decide)) (by rfl) T.m__law_book F__law_book.kp b__law_book .nil passL (pa_cons (pe_call G__law_seed (hr.mono (by decide)) (by rfl) T.m__law_seed F__law_seed.kp b__law_seed .nil passL (pa_cons (pv 0) (pa_cons pe_int pa_nil))) (pa_cons (pv 1) pa_nil)))) (pss_cons (ps_set (i := 3) sc.nd rfl (Or.inr rfl) (pe_call G__law_few (hr.mono (by decide)) (by rfl) T.m__law_few F__law_few.kp b__law_few .nil passL (pa_cons (pe_call G__law_seed (hr.mono (by decide)) (by rfl) T.m__law_seed F__law_seed.kp b__law_seed .nil passL (pa_cons (pv 0) (pa_cons pe_int pa_nil))) (pa_cons (pe_listRg (by rfl) (by rfl) T.b_list (prg_1 (by rfl) T.b_range (pv 1))) pa_nil)))) (pss_cons (ps_setLc (i := 4) (own := [("place", 5)]) (g := (gName 5)) (by rfl) sc.nd rfl rfl (sw_true rfl rfl rfl (by decide +kernel)) (pi_range1 (by rfl) T.b_range (pa_cons (pv 1) pa_nil)) (blkOk_by (own := [("place", 5)]) (N := N_law) (sc := defScope s_law) (by decide +kernel)) (fun _ _ _ _ _ => pg_name (i := 5) sc.nd rfl (Or.inl rfl)) (fun _ _ _ _ _ => pts_one (pt_cmpR (opnin (K := K) rfl) (pv 5) (pv 3) (by rfl))) (fun _ _ _ _ _ => (pv 5))) (pss_cons (ps_if (pt_not (pt_val (pe_call G__law_arrows_right (hr.mono (by decide)) (by rfl) T.m__law_arrows_right F__law_arrows_right.kp b__law_arrows_right .nil passL (pa_cons (pv 2) (pa_cons (pv 3) (pa_cons (pv 4) pa_nil)))))) (pss_one (ps_ret pe_bl)) pss_nil) (pss_cons (ps_set (i := 6) sc.nd rfl (Or.inl rfl) (pe_call G__law_seed (hr.mono (by decide)) (by rfl) T.m__law_seed F__law_seed.kp b__law_seed .nil passL (pa_cons (pv 0) (pa_cons pe_int pa_nil)))) (pss_cons (ps_set (i := 7) sc.nd rfl (Or.inl rfl) (pe_call G__law_seed (hr.mono (by decide)) (by rfl) T.m__law_seed F__law_seed.kp b__law_seed .nil passL (pa_cons (pv 0) (pa_cons pe_int pa_nil)))) (pss_cons (ps_set (i := 8) sc.nd rfl (Or.inl rfl) (pe_slice (sll (K := K) rfl) (pe_call G__law_shuffled (hr.mono (by decide)) (by rfl) T.m__law_shuffled F__law_shuffled.kp b__law_shuffled .nil passL (pa_cons (pv 7) (pa_cons (pe_listRg (by rfl) (by rfl) T.b_list (prg_1 (by rfl) T.b_range (pv 1))) pa_nil))) po_none (po_some pe_int))) (pss_cons (ps_for (passes_of rfl) rfl (pi_list (pv 8)) (pg_name (i := 5) sc.nd rfl (Or.inl rfl)) (pss_cons (ps_if (PW.pt (pw_or (pt_not (pt_val (pe_call G__law_ahead_right (hr.mono (by decide)) (by rfl) T.m__law_ahead_right F__law_ahead_right.kp b__law_ahead_right .nil passL (pa_cons (pv 2) (pa_cons (pv 5) pa_nil))))) (pw_or1 (pt_not (pt_val (pe_call G__law_opens_right (hr.mono (by decide)) (by rfl) T.m__law_opens_right F__law_opens_right.kp b__law_opens_right .nil passL (pa_cons (pv 7) (pa_cons (pv 2) (pa_cons (pv 5) pa_nil))))))))) (pss_one (ps_ret pe_bl)) pss_nil) (pss_one (ps_if (PW.pt (pw_and (pt_cmpR (opin (K := K) rfl) (pv 5) (pv 4) (by rfl)) (pw_and1 (pt_not (pt_val (pe_call G__law_moves_right (hr.mono (by decide)) (by rfl) T.m__law_moves_right F__law_moves_right.kp b__law_moves_right .nil passL (pa_cons (pv 6) (pa_cons (pv 2) (pa_cons (pe_call G__law_shuffled (hr.mono (by decide)) (by rfl) T.m__law_shuffled F__law_shuffled.kp b__law_shuffled .nil passL (pa_cons (pv 6) (pa_cons (pv 4) pa_nil))) (pa_cons (pv 5) pa_nil)))))))))) (pss_one (ps_ret pe_bl)) pss_nil)))) (pss_one (ps_ret (pe_call G__law_refusals_right (hr.mono (by decide)) (by rfl) T.m__law_refusals_right F__law_refusals_right.kp b__law_refusals_right .nil passL (pa_cons (pe_call G__law_seed (hr.mono (by decide)) (by rfl) T.m__law_seed F__law_seed.kp b__law_seed .nil passL (pa_cons (pv 0) (pa_cons pe_int pa_nil))) (pa_cons (pv 2) (pa_cons (pv 3) pa_nil))))))))))))))), ?_⟩
    have w := Wd.start (K := K) ex
    unfold m_law at hm
    obtain ⟨r1, e2, hm⟩ := ob hm
    obtain ⟨⟨r3, tmp5⟩, e4, hm⟩ := ob hm
    try dsimp only at hm
    try dsimp only [tNext]
    refine s_asg w ((ev_call1f (as := fun (g_ : (List Int) × Int × Int) p_ => [SA p_, rInt.s K g_.2.1, rInt.s K g_.2.2]) (Ci := fun (g_ : (List Int) × Int × Int) => CL rInt K g_.1) (g := (r1, (6 : Int), (16 : Int))) (fun Hh_ => ((ev_call0 (g := (script, (0 : Int))) (ea_cons (ev_var (S := rScr.s K script) rfl z0) (ea_cons ev_int ea_nil)) (al_p (fun _ z => z) (al_p (fun _ z => z) al_nil)) e2).le g_sn)) (imm_flat _) (show AllI [] from trivial) (fun pT => (ea_cons ev_int (ea_cons ev_int ea_nil))) rfl (fun pT => (al_p (fun _ z => List.mem_cons_of_mem _ z) (al_p (fun _ z => List.mem_cons_of_mem _ z) (al_p (fun _ z => List.mem_cons_of_mem _ z) al_nil)))) e4 (csi (imm_flat _))).le g_s) (fun w_v7 B6 H6 x6 w6 h8 => ?_)
    obtain ⟨r9, e10, hm⟩ := ob hm
    obtain ⟨⟨r11, tmp13⟩, e12, hm⟩ := ob hm
    try dsimp only at hm
    try dsimp only [tNext]
    refine s_asg w6 (ev_call1fa (as := fun (g_ : (List Int) × Int) p_ => [SA p_, rInt.s K g_.2]) (Ci := fun (g_ : (List Int) × Int) => CL rInt K g_.1) (g := (r9, r3)) (fun Hh_ => ((ev_call0 (g := (script, (1 : Int))) (ea_cons (ev_var (S := rScr.s K script) rfl (Sv.mono _ x6 z0)) (ea_cons ev_int ea_nil)) (al_p (fun _ z => z) (al_p (fun _ z => z) al_nil)) e10).le g_sn)) (imm_flat _) (show AllI [] from trivial) (fun pT => (ea_cons (ev_var (S := rInt.s K r3) rfl h8) ea_nil)) rfl (fun pT => (al_p (fun _ z => absurd z List.not_mem_nil) (al_p (fun _ z => absurd z List.not_mem_nil) al_nil))) e12) (fun w_v15 B14 H14 x14 w14 h16 => ?_)
    obtain ⟨r17, e18, hm⟩ := ob hm
    obtain ⟨t19, e20, hm⟩ := ob hm
    obtain ⟨⟨r21, tmp23⟩, e22, hm⟩ := ob hm
    try dsimp only at hm
    try dsimp only [tNext]
    refine s_asg w14 ((ev_call1f (as := fun (g_ : (List Int) × (List Int)) p_ => [SA p_, (rLst rInt).s K g_.2]) (Ci := fun (g_ : (List Int) × (List Int)) => CL rInt K g_.1) (g := (r17, t19)) (fun Hh_ => ((ev_call0 (g := (script, (2 : Int))) (ea_cons (ev_var (S := rScr.s K script) rfl (Sv.mono _ x14 (Sv.mono _ x6 z0))) (ea_cons ev_int ea_nil)) (al_p (fun _ z => z) (al_p (fun _ z => z) al_nil)) e18).le g_sn)) (imm_flat _) (show AllI [] from trivial) (fun pT => (ea_cons (ev_listR1 (ev_var (S := rInt.s K r3) rfl (Sv.mono _ x14 h8)) e20) ea_nil)) rfl (fun pT => (al_p (fun _ z => List.mem_cons_of_mem _ z) (al_le sn_s (fun _ z => List.mem_cons_of_mem _ z) al_nil))) e22 (csi (imm_flat _))).le g_s) (fun w_v25 B24 H24 x24 w24 h26 => ?_)
    obtain ⟨xs27, e28, hm⟩ := ob hm
    obtain ⟨⟨ys29, _⟩, e30, hm⟩ := ob hm
    try dsimp only at hm
    refine s_asg w24 ((ev_lc (R := rInt) (R' := rInt) (oo := (fun (rr : Unit) => [])) (fun (place : Int) (rr : Unit) => match rr with | () => some ((!decide (place ∈ r21)), ())) (fun (place : Int) (rr : Unit) => match rr with | () => some (place, ())) (lcT rInt K _ 5 [5]) (ei_r1 (ev_var (S := rInt.s K r3) rfl (Sv.mono _ x24 (Sv.mono _ x14 h8))) e28) e30 (lcT_mono _ _ _ _ _) (lcT_name rfl 5 [5] (by intro x; rfl)) (fun place rr bb r1 σ2 B' pD acc ht eB ⟨vx, hσ, hx⟩ => by subst hσ; cases ht; exact (et_test (ev_notin (ev_var (S := rInt.s K place) rfl hx) (ev_var (S := (rLst rInt).s K r21) rfl (Sv.mono _ eB h26)) src_p))) (fun place rr yy r1 σ2 B' pD acc he eB ⟨vx, hσ, hx⟩ => by subst hσ; cases he; exact (ev_var (S := rInt.s K place) rfl hx))).le sn_s) (fun w_v32 B31 H31 x31 w31 h33 => ?_)
    obtain ⟨r34, e35, hm⟩ := ob hm
    try dsimp only
    refine s_if w31 (et_not (et_B ((ev_call0 (g := (r11, r21, ys29)) (ea_cons (ev_var (S := (rLst (rLst rInt)).s K r11) rfl (Sv.mono _ x31 (Sv.mono _ x24 h16))) (ea_cons (ev_var (S := (rLst rInt).s K r21) rfl (Sv.mono _ x31 h26)) (ea_cons (ev_var (S := (rLst rInt).s K ys29) rfl h33) ea_nil))) (al_p (fun _ z => z) (al_p (fun _ z => z) (al_p (fun _ z => z) al_nil))) e35).le g_s))) (fun hb B36 H36 x36 w36 => ?_) (fun hb B36 H36 x36 w36 => ?_)
    · have hm := it hb hm
      refine s_ret w36 ev_bl (fun vv B37 H37 x37 w37 hv => ?_)
      cases hm
      exact k _ _ _ w37.st w37.ex ((imm_flat _) _ _ _ _ _ hv)
    · have hm := ie hb hm
      obtain ⟨r38, e39, hm⟩ := ob hm
      refine s_own w36 ((ev_call0 (g := (script, (3 : Int))) (ea_cons (ev_var (S := rScr.s K script) rfl (Sv.mono _ x36 (Sv.mono _ x31 (Sv.mono _ x24 (Sv.mono _ x14 (Sv.mono _ x6 z0)))))) (ea_cons ev_int ea_nil)) (al_p (fun _ z => z) (al_p (fun _ z => z) al_nil)) e39).le g_sn) (imm_flat _) trivial (fun q41 B40 H40 x40 n42 w40 => ?_)
      obtain ⟨r43, e44, hm⟩ := ob hm
      refine s_own w40 ((ev_call0 (g := (script, (4 : Int))) (ea_cons (ev_var (S := rScr.s K script) rfl (Sv.mono _ x40 (Sv.mono _ x36 (Sv.mono _ x31 (Sv.mono _ x24 (Sv.mono _ x14 (Sv.mono _ x6 z0))))))) (ea_cons ev_int ea_nil)) (al_p (fun _ z => z) (al_p (fun _ z => z) al_nil)) e44).le g_sn) (imm_flat _) ⟨csi (imm_flat _), trivial⟩ (fun q46 B45 H45 x45 n47 w45 => ?_)
      obtain ⟨t48, e49, hm⟩ := ob hm
      obtain ⟨⟨r50, grows52⟩, e51, hm⟩ := ob hm
      try dsimp only at hm
      refine s_asg w45 ((ev_cut (ev_call1 (g := (r43, t48)) 0 rfl (ea_cons (ev_var (S := SA q46) rfl rfl) (ea_cons (ev_listR1 (ev_var (S := rInt.s K r3) rfl (Sv.mono _ x45 (Sv.mono _ x40 (Sv.mono _ x36 (Sv.mono _ x31 (Sv.mono _ x24 (Sv.mono _ x14 h8))))))) e49) ea_nil)) rfl (al_p (fun a z => List.mem_of_mem_eraseIdx z) (al_le sn_s (fun a z => List.mem_of_mem_eraseIdx z) al_nil)) e51 (csi (imm_flat _))) eo_none (eo_some ev_int) src_g).le sn_s) (fun w_v54 B53 H53 x53 w53 h55 => ?_)
      refine s_for (R := rInt) (oo := (fun (rr : (List Int) × (List Int)) => [CL rInt K rr.2, CL rInt K rr.1])) (ρ0 := (r38, grows52)) (fun (place59 : Int) (rr : (List Int) × (List Int)) => (match rr with | (news56, grows57) => ((m__law_ahead_right (r11, place59)).bind fun r60 =>
(cond (!r60) (some (true, grows57)) ((m__law_opens_right (grows57, r11, place59)).bind fun (r62, grows64) => some ((!r62), grows64))).bind fun (b65, grows67) =>
cond b65 (some (.rt false)) ((cond (decide (place59 ∈ ys29)) ((m__law_shuffled (news56, ys29)).bind fun (r70, news72) => (m__law_moves_right (news72, r11, r70, place59)).bind fun (r73, news75) => some ((!r73), news75)) (some (false, news56))).bind fun (b76, news78) =>
cond b76 (some (.rt false)) (some (.nx (news78, grows67))))) : Option (Ctl ((List Int) × (List Int)) Bool))) (fun (rr : (List Int) × (List Int)) σ' B' => ∃ o_5 : Option V, σ' = [some v0, some w_v7, some w_v15, some w_v25, some w_v32, o_5, some (.ref q41), some (.ref q46), some w_v54]) (fun zz => finK _ _ zz = some _) w53 (ei_list (ev_var (S := (rLst rInt).s K (cut r50 none (some (6 : Int)))) rfl h55)) (fun rr σ' B1 B2 e ⟨o_5, hσ⟩ => ⟨o_5, hσ⟩) (fun B2 e => ⟨_, rfl⟩) hm ?_ ?_
      · rintro place59 rst rr vx58 σ' Bt58 Ht58 xt58 wt58 ⟨o_5t58, rfl⟩ hx58 hf N hN dn
        dsimp only [gName]
        obtain ⟨news56, grows57⟩ := rr
        obtain ⟨ctl, hfx, hbk58, hrt58⟩ := forL_step hf
        have hm := hfx
        obtain ⟨r60, e61, hm⟩ := ob hm
        obtain ⟨⟨b65, grows67⟩, e66, hm⟩ := ob hm
        try dsimp only at hm
        try dsimp only
        refine s_if wt58 (et_orO (o3 := [CL rInt K grows67, CL rInt K news56]) (b := b65) (et_not (et_B ((ev_call0 (g := (r11, place59)) (ea_cons (ev_var (S := (rLst (rLst rInt)).s K r11) rfl (Sv.mono _ xt58 (Sv.mono _ x53 (Sv.mono _ x45 (Sv.mono _ x40 (Sv.mono _ x36 (Sv.mono _ x31 (Sv.mono _ x24 h16)))))))) (ea_cons (ev_var (S := rInt.s K place59) rfl hx58) ea_nil)) (al_p (fun _ z => z) (al_p (fun _ z => z) al_nil)) e61).le g_s))) (fun hc => by have e66 := ie hc e66; obtain ⟨⟨r62, grows64⟩, e63, e66⟩ := ob e66; try dsimp only at e66; have hs0_ := Option.some.inj e66; obtain ⟨hq0_, hs1_⟩ := Prod.mk.inj hs0_; subst hq0_; subst hs1_; exact (et_not (et_B ((ev_call1 (g := (grows57, r11, place59)) 0 rfl (ea_cons (ev_var (S := SA q46) rfl rfl) (ea_cons (ev_var (S := (rLst (rLst rInt)).s K r11) rfl (Sv.mono _ xt58 (Sv.mono _ x53 (Sv.mono _ x45 (Sv.mono _ x40 (Sv.mono _ x36 (Sv.mono _ x31 (Sv.mono _ x24 h16)))))))) (ea_cons (ev_var (S := rInt.s K place59) rfl hx58) ea_nil))) rfl (al_p (fun a z => List.mem_of_mem_eraseIdx z) (al_p (fun a z => List.mem_of_mem_eraseIdx z) (al_p (fun a z => List.mem_of_mem_eraseIdx z) al_nil))) e63 (csi (imm_flat _))).le g_s)))) (fun hc => by have e66 := it hc e66; cases e66; exact ⟨rfl, rfl⟩)) (fun hb B68 H68 x68 w68 => ?_) (fun hb B68 H68 x68 w68 => ?_)
        · have hm := it hb hm
          refine s_ret w68 ev_bl (fun vv B69 H69 x69 w69 hv => ?_)
          cases hm
          replace hm := hrt58 _ rfl
          cases hm
          exact k _ _ _ w69.st w69.ex ((imm_flat _) _ _ _ _ _ hv)
        · have hm := ie hb hm
          obtain ⟨⟨b76, news78⟩, e77, hm⟩ := ob hm
          try dsimp only at hm
          try dsimp only
          refine s_if w68 (et_andO (o3 := [CL rInt K grows67, CL rInt K news78]) (b := b76) (et_test (ev_in (ev_var (S := rInt.s K place59) rfl (Sv.mono _ x68 hx58)) (ev_var (S := (rLst rInt).s K ys29) rfl (Sv.mono _ x68 (Sv.mono _ xt58 (Sv.mono _ x53 (Sv.mono _ x45 (Sv.mono _ x40 (Sv.mono _ x36 h33))))))) src_p)) (fun hc => by have e77 := it hc e77; obtain ⟨⟨r70, news72⟩, e71, e77⟩ := ob e77; try dsimp only at e77; obtain ⟨⟨r73, news75⟩, e74, e77⟩ := ob e77; try dsimp only at e77; have hs0_ := Option.some.inj e77; obtain ⟨hq0_, hs1_⟩ := Prod.mk.inj hs0_; subst hq0_; subst hs1_; exact (et_not (et_B ((ev_call1 (g := (news72, r11, r70, place59)) 1 rfl (ea_cons (ev_var (S := SA q41) rfl rfl) (ea_cons (ev_var (S := (rLst (rLst rInt)).s K r11) rfl (Sv.mono _ x68 (Sv.mono _ xt58 (Sv.mono _ x53 (Sv.mono _ x45 (Sv.mono _ x40 (Sv.mono _ x36 (Sv.mono _ x31 (Sv.mono _ x24 h16))))))))) (ea_cons (ev_call1 (g := (news56, ys29)) 1 rfl (ea_cons (ev_var (S := SA q41) rfl rfl) (ea_cons (ev_var (S := (rLst rInt).s K ys29) rfl (Sv.mono _ x68 (Sv.mono _ xt58 (Sv.mono _ x53 (Sv.mono _ x45 (Sv.mono _ x40 (Sv.mono _ x36 h33))))))) ea_nil)) rfl (al_p (fun a z => List.mem_of_mem_eraseIdx z) (al_p (fun a z => List.mem_of_mem_eraseIdx z) al_nil)) e71 (csi (imm_flat _))) (ea_cons (ev_var (S := rInt.s K place59) rfl (Sv.mono _ x68 hx58)) ea_nil)))) rfl (al_p (fun a z => List.mem_of_mem_eraseIdx z) (al_p (fun a z => List.mem_of_mem_eraseIdx z) (al_le g_s (fun a z => List.mem_of_mem_eraseIdx z) (al_p (fun a z => List.mem_of_mem_eraseIdx z) al_nil)))) e74 (csi (imm_flat _))).le g_s)))) (fun hc => by have e77 := ie hc e77; cases e77; exact ⟨rfl, rfl⟩)) (fun hb B79 H79 x79 w79 => ?_) (fun hb B79 H79 x79 w79 => ?_)
          · have hm := it hb hm
            refine s_ret w79 ev_bl (fun vv B80 H80 x80 w80 hv => ?_)
            cases hm
            replace hm := hrt58 _ rfl
            cases hm
            exact k _ _ _ w80.st w80.ex ((imm_flat _) _ _ _ _ _ hv)
          · have hm := ie hb hm
            have hq_ := Option.some.inj hm
            subst hq_
            exact hN (news78, grows67) _ _ _ hfx (x68.trans x79) w79 ⟨_, rfl⟩
      · rintro rr σ' B81 H81 x81 w81 ⟨o_5k82, rfl⟩ hm
        try dsimp only
        replace hm := finK_nx hm
        obtain ⟨news56, grows57⟩ := rr
        obtain ⟨r83, e84, hm⟩ := ob hm
        obtain ⟨⟨r85, tmp87⟩, e86, hm⟩ := ob hm
        try dsimp only at hm
        refine s_ret w81 ((ev_call1f (as := fun (g_ : (List Int) × (List (List Int)) × (List Int)) p_ => [SA p_, (rLst (rLst rInt)).s K g_.2.1, (rLst rInt).s K g_.2.2]) (Ci := fun (g_ : (List Int) × (List (List Int)) × (List Int)) => CL rInt K g_.1) (g := (r83, r11, r21)) (fun Hh_ => ((ev_call0 (g := (script, (5 : Int))) (ea_cons (ev_var (S := rScr.s K script) rfl (Sv.mono _ x81 (Sv.mono _ x53 (Sv.mono _ x45 (Sv.mono _ x40 (Sv.mono _ x36 (Sv.mono _ x31 (Sv.mono _ x24 (Sv.mono _ x14 (Sv.mono _ x6 z0)))))))))) (ea_cons ev_int ea_nil)) (al_p (fun _ z => z) (al_p (fun _ z => z) al_nil)) e84).le g_sn)) (imm_flat _) (show AllI [CL rInt K grows57, CL rInt K news56] from ⟨csi (imm_flat _), ⟨csi (imm_flat _), trivial⟩⟩) (fun pT => (ea_cons (ev_var (S := (rLst (rLst rInt)).s K r11) rfl (Sv.mono _ x81 (Sv.mono _ x53 (Sv.mono _ x45 (Sv.mono _ x40 (Sv.mono _ x36 (Sv.mono _ x31 (Sv.mono _ x24 h16)))))))) (ea_cons (ev_var (S := (rLst rInt).s K r21) rfl (Sv.mono _ x81 (Sv.mono _ x53 (Sv.mono _ x45 (Sv.mono _ x40 (Sv.mono _ x36 (Sv.mono _ x31 h26))))))) ea_nil))) rfl (fun pT => (al_p (fun _ z => List.mem_cons_of_mem _ z) (al_p (fun _ z => List.mem_cons_of_mem _ z) (al_p (fun _ z => List.mem_cons_of_mem _ z) al_nil)))) e86 (csi (imm_flat _))).le g_s) (fun vv B88 H88 x88 w88 hv => ?_)
        cases hm
        exact k _ _ _ w88.st w88.ex ((imm_flat _) _ _ _ _ _ hv)
end G

/-! P0 -/
set_option Elab.async false
set_option linter.all false
set_option maxRecDepth 100000
set_option maxHeartbeats 1000000
/-! plain tools, of no law -/
namespace M
open PySem Dl
open L2 (atI ixN)
theorem rng {n : Int} (h0 : 0 ≤ n) (h1 : n ≤ 1000000) : rngO 0 n = some (rangeI 0 n) := by
  unfold rngO
  rw [if_pos (by omega)]
theorem rng_nat (n : Nat) : rangeI 0 (n : Int) = (List.range n).map fun (k : Nat) => (k : Int) := by
  unfold rangeI
  rw [Int.sub_zero, Int.toNat_natCast]
  exact List.map_congr_left fun k _ => Int.zero_add _
theorem mem_rng {n x : Int} : x ∈ rangeI 0 n ↔ 0 ≤ x ∧ x < n := by
  unfold rangeI
  rw [List.mem_map]
  constructor
  · rintro ⟨k, hk, rfl⟩
    rw [List.mem_range] at hk
    omega
  · rintro ⟨h1, h2⟩
    exact ⟨x.toNat, by rw [List.mem_range]; omega, by omega⟩
theorem rng_len {n : Int} : (rangeI 0 n).length = n.toNat := by
  unfold rangeI
  rw [List.length_map, List.length_range, Int.sub_zero]
theorem ixN_pos {n : Nat} {i : Int} (h0 : 0 ≤ i) (h1 : i < n) : ixN n i = some i.toNat := by
  unfold ixN
  rw [if_pos h0, if_pos h1]
theorem at_ {α : Type} {xs : List α} {i : Int} (h0 : 0 ≤ i) (h1 : i < xs.length) : ∃ x, atI xs i = some x ∧ xs[i.toNat]? = some x := by
  unfold atI
  rw [ixN_pos h0 h1]
  have h : i.toNat < xs.length := by omega
  exact ⟨xs[i.toNat], List.getElem?_eq_getElem h, List.getElem?_eq_getElem h⟩
theorem set_ {α : Type} {xs : List α} {i : Int} (x : α) (h0 : 0 ≤ i) (h1 : i < xs.length) : setO xs i x = some (xs.set i.toNat x) := by
  unfold setO
  rw [ixN_pos h0 h1]
theorem lc_pure {α β : Type} {tf : α → Unit → Option (Bool × Unit)} {ef : α → Unit → Option (β × Unit)} (t : α → Bool) (e : α → β) : ∀ {xs : List α}, (∀ x ∈ xs, tf x () = some (t x, ())) → (∀ x ∈ xs, t x = true → ef x () = some (e x, ())) → lcM tf ef xs () = some ((xs.filter t).map e, ())
  | [], _, _ => rfl
  | x :: xs, h1, h2 => by
    have ih := lc_pure t e (xs := xs) (fun y hy => h1 y (List.mem_cons_of_mem _ hy)) fun y hy => h2 y (List.mem_cons_of_mem _ hy)
    unfold lcM
    rw [h1 x List.mem_cons_self]
    cases ht : t x with
    | false =>
      simp only [ih]
      rw [List.filter_cons_of_neg (by simp [ht])]
    | true =>
      simp only [h2 x List.mem_cons_self ht, ih]
      rw [List.filter_cons_of_pos ht]
      rfl
theorem lcO_pure {α β : Type} {tf : α → Unit → Option (Bool × Unit)} {ef : α → Unit → Option (β × Unit)} {xs : List α} (t : α → Bool) (e : α → β) (hl : xs.length ≤ 1000000) (h1 : ∀ x ∈ xs, tf x () = some (t x, ())) (h2 : ∀ x ∈ xs, t x = true → ef x () = some (e x, ())) : lcO tf ef xs () = some ((xs.filter t).map e, ()) := by
  unfold lcO
  rw [if_pos hl, lc_pure t e h1 h2]
theorem lcO_all {α β : Type} {ef : α → Unit → Option (β × Unit)} {xs : List α} (e : α → β) (hl : xs.length ≤ 1000000) (h2 : ∀ x ∈ xs, ef x () = some (e x, ())) : lcO (fun x (rr : Unit) => match rr with | () => some (true, ())) ef xs () = some (xs.map e, ()) := by
  rw [lcO_pure (fun _ => true) e hl (fun _ _ => rfl) fun x hx _ => h2 x hx]
  rw [List.filter_eq_self.mpr fun _ _ => rfl]
theorem for_find {α τ : Type} {f : α → Unit → Option (Ctl Unit τ)} (bad : α → Bool) (r : α → τ) : ∀ {xs : List α}, (∀ x ∈ xs, f x () = some (if bad x then .rt (r x) else .nx ())) → forL f xs () = some (match xs.find? bad with | some x => .rt (r x) | none => .nx ())
  | [], _ => rfl
  | x :: xs, h => by
    unfold forL
    rw [h x List.mem_cons_self, List.find?_cons]
    cases hb : bad x with
    | true => simp
    | false =>
      simp only [Bool.false_eq_true, if_false]
      exact for_find bad r fun y hy => h y (List.mem_cons_of_mem _ hy)
def S3 (s : List Int) : Prop := ∃ a b c, s = [a, b, c]
theorem mul_l {m n : Int} (h : -(2 ^ 64) < n ∧ n < 2 ^ 64) : mulO m n = some (m * n) := by
  unfold mulO
  rw [if_pos (.inr h)]
theorem mod_ {m n : Int} (h : n ≠ 0) : modO m n = some (m.fmod n) := by
  unfold modO
  rw [if_pos h]
theorem div_ {m n : Int} (h : n ≠ 0 ∧ n.natAbs < 1073741824) : divO m n = some (m.fdiv n) := by
  unfold divO
  rw [if_pos h]
theorem at_n {α : Type} {xs : List α} {e : Nat} (d : α) (h : e < xs.length) : atI xs (e : Int) = some (xs.getD e d) := by
  obtain ⟨x, h1, h2⟩ := at_ (xs := xs) (i := (e : Int)) (by omega) (by omega)
  rw [Int.toNat_natCast] at h2
  rw [h1, List.getD_eq_getElem?_getD, h2]
  rfl
theorem at_p {α : Type} {xs : List α} {i : Int} (d : α) (h0 : 0 ≤ i) (h : i < xs.length) : atI xs i = some (xs.getD i.toNat d) := by
  have z := at_n (xs := xs) (e := i.toNat) d (by omega)
  rw [Int.toNat_of_nonneg h0] at z
  exact z
theorem at_m1 {α : Type} {xs : List α} {n : Nat} (d : α) (h : xs.length = n + 1) : atI xs (-1) = some (xs.getD n d) := by
  unfold atI ixN
  rw [if_neg (by omega), if_pos (by omega)]
  have e : ((-1 : Int) + (xs.length : Int)).toNat = n := by omega
  rw [e]
  show xs[n]? = _
  rw [List.getD_eq_getElem?_getD, List.getElem?_eq_getElem (by omega)]
  rfl
theorem enum_map {α : Type} (d : α) (xs : List α) : enumL xs = (List.range xs.length).map fun (p : Nat) => ((p : Int), xs.getD p d) := by
  apply List.ext_getElem?
  intro i
  rw [enumL, enumF_get, List.getElem?_map]
  by_cases h : i < xs.length
  · rw [List.getElem?_eq_getElem h, List.getElem?_range h]
    simp only [Option.map_some, Nat.zero_add, List.getD_eq_getElem?_getD, List.getElem?_eq_getElem h, Option.getD_some]
  · rw [List.getElem?_eq_none (by omega), List.getElem?_eq_none (by rw [List.length_range]; omega)]
    rfl
theorem cut_to {α : Type} {xs : List α} {i : Nat} (h : i ≤ xs.length) : cut xs none (some (i : Int)) = xs.take i := by
  unfold cut
  rw [HT.sIx_nat, HT.sIx_none, Nat.min_eq_left h]
  simp
theorem cut_from {α : Type} {xs : List α} {i : Nat} (h : i ≤ xs.length) : cut xs (some (i : Int)) none = xs.drop i := by
  unfold cut
  rw [HT.sIx_nat, HT.sIx_none, Nat.min_eq_left h]
  exact List.take_of_length_le (by rw [List.length_drop]; omega)
def badPl (n : Int) (ps : List Int) (i : Nat) : Bool := !(decide (0 ≤ ps.getD i 0) && decide (ps.getD i 0 < n)) || decide (ps.getD i 0 ∈ ps.take i)
theorem for_nx {α τ : Type} {f : α → Unit → Option (Ctl Unit τ)} : ∀ {xs : List α}, (∀ x ∈ xs, f x () = some (.nx ())) → forL f xs () = some (.nx ())
  | [], _ => rfl
  | x :: xs, h => by
    unfold forL
    rw [h x List.mem_cons_self]
    exact for_nx fun y hy => h y (List.mem_cons_of_mem _ hy)
theorem row_at {t : List (List Int)} {p : Int} (p0 : 0 ≤ p) (p1 : p < t.length) : rowO t p = some (p.toNat, t.getD p.toNat []) := by
  unfold rowO
  rw [ixN_pos p0 p1]
  simp only
  rw [List.getD_eq_getElem?_getD, List.getElem?_eq_getElem (by omega), Option.getD_some]
theorem for_inv' {α ρ τ : Type} {f : α → ρ → Option (Ctl ρ τ)} (I : Nat → ρ → Prop) : ∀ {xs : List α} (k : Nat) {r : ρ}, I k r → (∀ i x r, xs[i]? = some x → I (k + i) r → ∃ r', f x r = some (.nx r') ∧ I (k + i + 1) r') → ∃ r', forL f xs r = some (.nx r') ∧ I (k + xs.length) r'
  | [], k, r, h, _ => ⟨r, rfl, h⟩
  | x :: xs, k, r, h, st => by
    obtain ⟨r1, e1, h1⟩ := st 0 x r rfl h
    obtain ⟨r2, e2, h2⟩ := for_inv' I (xs := xs) (k + 1) (r := r1) h1 fun i y r hy hi => by
      have := st (i + 1) y r (by simpa using hy) (by rw [show k + (i + 1) = k + 1 + i by omega]; exact hi)
      rw [show k + (i + 1) + 1 = k + 1 + i + 1 by omega] at this
      exact this
    refine ⟨r2, ?_, ?_⟩
    · unfold forL
      rw [e1]
      exact e2
    · rw [List.length_cons, show k + (xs.length + 1) = k + 1 + xs.length by omega]
      exact h2
theorem for_inv {α ρ τ : Type} {f : α → ρ → Option (Ctl ρ τ)} {xs : List α} (I : Nat → ρ → Prop) {r : ρ} (h : I 0 r) (st : ∀ i x r, xs[i]? = some x → I i r → ∃ r', f x r = some (.nx r') ∧ I (i + 1) r') : ∃ r', forL f xs r = some (.nx r') ∧ I xs.length r' := by
  obtain ⟨r', e, h'⟩ := for_inv' I 0 h fun i x r hx hi => by
    rw [Nat.zero_add] at hi ⊢
    exact st i x r hx hi
  rw [Nat.zero_add] at h'
  exact ⟨r', e, h'⟩
theorem rng_get {n : Nat} {i : Nat} {x : Int} (h : (rangeI 0 (n : Int))[i]? = some x) : x = (i : Int) ∧ i < n := by
  rw [rng_nat, List.getElem?_map] at h
  by_cases hi : i < n
  · rw [List.getElem?_range hi] at h
    cases h
    exact ⟨rfl, hi⟩
  · rw [List.getElem?_eq_none (by rw [List.length_range]; omega)] at h
    cases h
theorem lc_all {α β ρ : Type} {ef : α → ρ → Option (β × ρ)} (I : ρ → Prop) (J : β → Prop) : ∀ {xs : List α} {r : ρ}, I r → (∀ x r, x ∈ xs → I r → ∃ y r', ef x r = some (y, r') ∧ J y ∧ I r') → ∃ ys r', lcM (fun _ r => some (true, r)) ef xs r = some (ys, r') ∧ ys.length = xs.length ∧ (∀ y ∈ ys, J y) ∧ I r'
  | [], r, h, _ => ⟨[], r, rfl, rfl, fun _ h => (nomatch h), h⟩
  | x :: xs, r, h, st => by
    obtain ⟨y, r1, e1, j1, h1⟩ := st x r List.mem_cons_self h
    obtain ⟨ys, r2, e2, l2, j2, h2⟩ := lc_all I J (xs := xs) h1 fun z r hz => st z r (List.mem_cons_of_mem _ hz)
    refine ⟨y :: ys, r2, ?_, by rw [List.length_cons, l2, List.length_cons], fun z hz => ?_, h2⟩
    · unfold lcM
      simp only [e1, e2]
    · rcases List.mem_cons.mp hz with rfl | hz
      · exact j1
      · exact j2 z hz
theorem lcO_st {α β ρ : Type} {ef : α → ρ → Option (β × ρ)} {xs : List α} {r : ρ} (I : ρ → Prop) (J : β → Prop) (hl : xs.length ≤ 1000000) (h : I r) (st : ∀ x r, x ∈ xs → I r → ∃ y r', ef x r = some (y, r') ∧ J y ∧ I r') : ∃ ys r', lcO (fun _ r => some (true, r)) ef xs r = some (ys, r') ∧ ys.length = xs.length ∧ (∀ y ∈ ys, J y) ∧ I r' := by
  unfold lcO
  rw [if_pos hl]
  exact lc_all I J h st
theorem rep1 {x : Int} {n : Int} (h0 : 0 ≤ n) (h1 : n ≤ 1000) : ∃ ys, repO [x] n = some ys ∧ ys.length = n.toNat := by
  unfold repO
  rw [if_pos ⟨by omega, by omega, rfl⟩]
  exact ⟨_, rfl, rep_len rfl _⟩
theorem cat1 {xs ys : List Int} (h : xs.length + ys.length ≤ 1000) : catO xs ys = some (xs ++ ys) := by
  unfold catO
  rw [if_pos (by omega)]
theorem memD_t {α : Type} [DecidableEq α] {x : α} {xs : List α} (h : x ∈ xs) : memD x xs = true := decide_eq_true h
theorem memD_f {α : Type} [DecidableEq α] {x : α} {xs : List α} (h : ¬ x ∈ xs) : memD x xs = false := decide_eq_false h
theorem idx_find {α β : Type} [DecidableEq β] (g : α → β) (y : β) : ∀ (L : List α), idxG y (L.map g) = L.findIdx? (fun x => decide (g x = y))
  | [] => rfl
  | x :: L => by
    rw [List.map_cons, List.findIdx?_cons]
    unfold idxG
    by_cases h : g x = y
    · rw [if_pos h, decide_eq_true h, if_pos rfl]
    · rw [if_neg h, decide_eq_false h, if_neg Bool.false_ne_true, idx_find g y L]
theorem range_find (p : Nat → Bool) (n : Nat) : (List.range n).findIdx? p = (List.range n).find? p := by
  have : ∀ (m k : Nat), ((List.range' k m).findIdx? p).map (· + k) = (List.range' k m).find? p := by
    intro m
    induction m with
    | zero => intro k; rfl
    | succ m ih =>
      intro k
      rw [List.range'_succ, List.findIdx?_cons, List.find?_cons]
      cases hp : p k with
      | true => simp
      | false =>
        simp only [Bool.false_eq_true, if_false]
        rw [← ih (k + 1), Option.map_map]
        congr 1
        funext i
        simp only [Function.comp_apply]
        omega
  have := this n 0
  rw [List.range_eq_range', ← this]
  simp
theorem pop_at {xs : List Int} {i : Int} (h0 : 0 ≤ i) (h1 : i < xs.length) (hl : xs.length < 1000000) : ∃ y, popAtO xs i = some (y, xs.eraseIdx i.toNat) ∧ xs[i.toNat]? = some y := by
  unfold popAtO
  rw [if_pos hl, ixN_pos h0 h1]
  simp only
  rw [List.getElem?_eq_getElem (by omega)]
  exact ⟨_, rfl, rfl⟩
theorem erase_perm : ∀ {xs : List Int} {i : Nat} {y : Int}, xs[i]? = some y → (y :: xs.eraseIdx i).Perm xs
  | [], _, _, h => by simp at h
  | x :: xs, 0, y, h => by simp at h; subst h; exact .refl _
  | x :: xs, i + 1, y, h => by
    rw [List.eraseIdx_cons_succ]
    exact (List.Perm.swap x y _).trans ((erase_perm (by simpa using h)).cons x)
theorem for_any {α : Type} {τ : Type} {f : α → Unit → Option (Ctl Unit τ)} (bad : α → Bool) (r : τ) {xs : List α} (h : ∀ x ∈ xs, f x () = some (if bad x then .rt r else .nx ())) : forL f xs () = some (if xs.any bad then .rt r else .nx ()) := by
  rw [for_find bad (fun _ => r) h]
  cases hf : xs.find? bad with
  | none =>
    have : xs.any bad = false := by
      rw [List.any_eq_false]
      intro x hx
      rw [List.find?_eq_none] at hf
      exact hf x hx
    rw [this]
    rfl
  | some x =>
    have : xs.any bad = true := List.any_eq_true.mpr ⟨x, List.mem_of_find?_eq_some hf, List.find?_some hf⟩
    rw [this]
    rfl
theorem nodup_len : ∀ {xs L : List Int}, xs.Nodup → (∀ x ∈ xs, x ∈ L) → xs.length ≤ L.length
  | [], _, _, _ => Nat.zero_le _
  | x :: xs, L, h, k => by
    rw [List.nodup_cons] at h
    have hx := k x List.mem_cons_self
    have ih := nodup_len (L := L.erase x) h.2 fun y hy => (List.mem_erase_of_ne (show y ≠ x from fun e => h.1 (by rw [← e]; exact hy))).mpr (k y (List.mem_cons_of_mem _ hy))
    rw [List.length_erase_of_mem hx] at ih
    have := List.length_pos_of_mem hx
    rw [List.length_cons]
    omega
theorem any_congr {xs : List Int} {f g : Int → Bool} (h : ∀ x ∈ xs, f x = g x) : xs.any f = xs.any g := by
  induction xs with
  | nil => rfl
  | cons x xs ih => rw [List.any_cons, List.any_cons, h x List.mem_cons_self, ih fun y hy => h y (List.mem_cons_of_mem _ hy)]
theorem lc_sel {α ρ : Type} {tf : α → ρ → Option (Bool × ρ)} (I : ρ → Prop) : ∀ {xs : List α} {r : ρ}, I r → (∀ x r, I r → ∃ b r', tf x r = some (b, r') ∧ I r') → ∃ ys r', lcM tf (fun x r => some (x, r)) xs r = some (ys, r') ∧ ys.Sublist xs ∧ I r'
  | [], r, h, _ => ⟨[], r, rfl, .slnil, h⟩
  | x :: xs, r, h, st => by
    obtain ⟨b, r1, e1, h1⟩ := st x r h
    obtain ⟨ys, r2, e2, s2, h2⟩ := lc_sel I (xs := xs) h1 st
    cases b with
    | false =>
      refine ⟨ys, r2, ?_, s2.cons x, h2⟩
      unfold lcM
      rw [e1]
      exact e2
    | true =>
      refine ⟨x :: ys, r2, ?_, s2.cons₂ x, h2⟩
      unfold lcM
      rw [e1]
      simp only [e2]
theorem rng_nodup (n : Nat) : (rangeI 0 (n : Int)).Nodup := by
  rw [rng_nat, List.nodup_iff_pairwise_ne, List.pairwise_map]
  refine (List.nodup_range (n := n)).imp ?_
  intro a b h z
  exact h (by omega)
end M

/-! P1 -/
set_option Elab.async false
set_option linter.all false
set_option maxRecDepth 100000
set_option maxHeartbeats 1000000
/-! families of nodes, and walks among them; no law, no program -/
namespace M
open PySem Dl
open L2 (atI ixN)
abbrev Nd := List Int × Int
def Sub (X Y : List Int) : Prop := ∀ a ∈ X, a ∈ Y
theorem Sub.refl (X : List Int) : Sub X X := fun _ h => h
theorem Sub.trans {X Y Z : List Int} (a : Sub X Y) (b : Sub Y Z) : Sub X Z := fun x h => b x (a x h)
structure Lam (n : Int) (F : List Nd) : Prop where
  nd : ∀ X ∈ F, X.1.Nodup
  gt : ∀ X ∈ F, X.2 ∉ X.1 ∧ (X.2 = -1 ∨ (0 ≤ X.2 ∧ X.2 < n))
  lam : ∀ X ∈ F, ∀ Y ∈ F, ∀ a, a ∈ X.1 → a ∈ Y.1 → Sub X.1 Y.1 ∨ Sub Y.1 X.1
  dd : ∀ X ∈ F, ∀ Y ∈ F, Sub X.1 Y.1 → Sub Y.1 X.1 → X.2 = Y.2
  pp : ∀ X ∈ F, ∀ Y ∈ F, Sub X.1 Y.1 → ¬ Sub Y.1 X.1 → X.2 ∈ Y.1
/-- whatever takes a node inside R whole, with its gate, takes R whole -/
def CC (F : List Nd) (R : Nd) : Prop := ∀ U : Int → Prop, (∃ u ∈ R.1, U u) → (∀ X ∈ F, Sub X.1 R.1 → ¬ Sub R.1 X.1 → (∃ a ∈ X.1, U a) → (∀ a ∈ X.1, U a) ∧ U X.2) → ∀ a ∈ R.1, U a
/-- nothing takes all that it meets whole, with the gates -/
def TT (n : Int) (F : List Nd) : Prop := ∀ U : Int → Prop, (∃ u, U u) → (∀ u, U u → 0 ≤ u ∧ u < n) → ¬ ∀ X ∈ F, (∃ a ∈ X.1, U a) → (∀ a ∈ X.1, U a) ∧ U X.2
structure Fam (n : Int) (F : List Nd) : Prop where
  l : Lam n F
  cc : ∀ R ∈ F, CC F R
  tt : TT n F
theorem Lam.perm {n : Int} {F G : List Nd} (h : Lam n F) (p : G.Perm F) : Lam n G :=
  ⟨fun X x => h.nd X (p.mem_iff.mp x), fun X x => h.gt X (p.mem_iff.mp x), fun X x Y y => h.lam X (p.mem_iff.mp x) Y (p.mem_iff.mp y), fun X x Y y => h.dd X (p.mem_iff.mp x) Y (p.mem_iff.mp y), fun X x Y y => h.pp X (p.mem_iff.mp x) Y (p.mem_iff.mp y)⟩
theorem Fam.perm {n : Int} {F G : List Nd} (h : Fam n F) (p : G.Perm F) : Fam n G :=
  ⟨h.l.perm p, fun R r U u k => h.cc R (p.mem_iff.mp r) U u fun X x => k X (p.mem_iff.mpr x), fun U u v k => h.tt U u v fun X x => k X (p.mem_iff.mpr x)⟩
theorem sub_len {X Y : List Int} (h : Sub X Y) (nx : X.Nodup) (hl : Y.length ≤ X.length) : Sub Y X := fun y hy => by
  by_cases hm : y ∈ X
  · exact hm
  · exfalso
    have h2 : X.length ≤ (Y.erase y).length := nodup_len nx fun x hx => (List.mem_erase_of_ne (fun e => hm (by rw [← e]; exact hx))).mpr (h x hx)
    rw [List.length_erase_of_mem hy] at h2
    have := List.length_pos_of_mem hy
    omega
theorem list_min {α : Type} (f : α → Nat) (P : α → Prop) : ∀ (k : Nat) {F : List α}, (∃ x ∈ F, P x ∧ f x ≤ k) → ∃ x ∈ F, P x ∧ ∀ y ∈ F, P y → f x ≤ f y
  | 0, F, ⟨x, hx, px, hk⟩ => ⟨x, hx, px, fun y _ _ => by omega⟩
  | k + 1, F, ⟨x, hx, px, hk⟩ => by
    by_cases h : ∃ y ∈ F, P y ∧ f y ≤ k
    · exact list_min f P k h
    · refine ⟨x, hx, px, fun y hy py => ?_⟩
      have : ¬ f y ≤ k := fun z => h ⟨y, hy, py, z⟩
      omega
/-- of what is left behind: all or nothing is named, and what is behind it -/
def Kv (F : List Nd) (W : List Int) (p : Int) : Prop := ∀ X ∈ F, p ∉ X.1 → (∀ a ∈ X.1, a ∉ W) ∨ (Sub X.1 W ∧ (X.2 ∈ W ∨ ∃ Y ∈ F, Sub X.1 Y.1 ∧ ¬ Sub Y.1 X.1 ∧ Sub Y.1 W))
theorem kv_one {F : List Nd} {p : Int} : Kv F [p] p := fun X _ h => .inl fun a ha hm => by
  rw [List.mem_singleton] at hm
  exact h (by rw [← hm]; exact ha)
section
variable {n : Int} {F : List Nd} {W : List Int} {p : Int} {N : Nd}
theorem walk_in (h : Lam n F) (hN : N ∈ F) (pN : p ∈ N.1) (cN : Sub N.1 W) (gN : N.2 ∈ W) (K : Kv F W p) {X : Nd} (hX : X ∈ F) (hns : p ∈ X.1 → Sub X.1 N.1) {a : Int} (ha : a ∈ X.1) (hw : a ∈ W) : Sub X.1 W ∧ X.2 ∈ W := by
  by_cases px : p ∈ X.1
  · have sx := hns px
    refine ⟨sx.trans cN, ?_⟩
    by_cases e : Sub N.1 X.1
    · rw [h.dd X hX N hN sx e]; exact gN
    · exact cN _ (h.pp X hX N hN sx e)
  · rcases K X hX px with k | ⟨k1, k2⟩
    · exact absurd hw (k a ha)
    · refine ⟨k1, ?_⟩
      rcases k2 with k2 | ⟨Y, hY, y1, y2, y3⟩
      · exact k2
      · exact y3 _ (h.pp X hX Y hY y1 y2)
theorem walk_new (h : Fam n F) (hW : ∀ a ∈ W, 0 ≤ a ∧ a < n) (hp : p ∈ W) (K : Kv F W p) (hN : N ∈ F) (pN : p ∈ N.1) (cN : Sub N.1 W) (mx : ∀ X ∈ F, p ∈ X.1 → Sub X.1 W → Sub X.1 N.1) : N.2 ∉ W := by
  intro gN
  by_cases hR : ∃ R ∈ F, (Sub N.1 R.1 ∧ ¬ Sub R.1 N.1)
  · obtain ⟨R0, r0, r1⟩ := hR
    obtain ⟨R, hRF, ⟨rs, rn⟩, rm⟩ := list_min (fun X : Nd => X.1.length) (fun X => Sub N.1 X.1 ∧ ¬ Sub X.1 N.1) R0.1.length ⟨R0, r0, r1, Nat.le_refl _⟩
    have rw_ : ¬ Sub R.1 W := fun z => rn (mx R hRF (rs p pN) z)
    refine rw_ fun a ha => (h.cc R hRF (fun a => a ∈ W) ⟨p, rs p pN, hp⟩ (fun X hX x1 x2 ⟨a, ha, hw⟩ => ?_) a ha)
    refine walk_in h.l hN pN cN gN K hX (fun px => ?_) ha hw
    rcases h.l.lam X hX N hN p px pN with z | z
    · exact z
    · by_cases e : Sub X.1 N.1
      · exact e
      · exact absurd (sub_len x1 (h.l.nd X hX) (rm X hX ⟨z, e⟩)) x2
  · refine h.tt (fun a => a ∈ W) ⟨p, hp⟩ hW fun X hX ⟨a, ha, hw⟩ => ?_
    refine walk_in h.l hN pN cN gN K hX (fun px => ?_) ha hw
    rcases h.l.lam X hX N hN p px pN with z | z
    · exact z
    · by_cases e : Sub X.1 N.1
      · exact e
      · exact absurd ⟨X, hX, z, e⟩ hR
theorem walk_kv (h : Lam n F) (K : Kv F W p) (hN : N ∈ F) (pN : p ∈ N.1) (cN : Sub N.1 W) : Kv F (W ++ [N.2]) N.2 := fun X hX gx => by
  have up : ∀ {Z : List Int}, Sub Z W → Sub Z (W ++ [N.2]) := fun z a ha => List.mem_append_left _ (z a ha)
  have inn : Sub X.1 N.1 → Sub X.1 (W ++ [N.2]) ∧ (X.2 ∈ W ++ [N.2] ∨ ∃ Y ∈ F, Sub X.1 Y.1 ∧ ¬ Sub Y.1 X.1 ∧ Sub Y.1 (W ++ [N.2])) := fun sx => by
    refine ⟨up (sx.trans cN), ?_⟩
    by_cases e : Sub N.1 X.1
    · left
      rw [h.dd X hX N hN sx e]
      exact List.mem_append_right _ List.mem_cons_self
    · exact .inr ⟨N, hN, sx, e, up cN⟩
  by_cases px : p ∈ X.1
  · rcases h.lam X hX N hN p px pN with z | z
    · exact .inr (inn z)
    · by_cases e : Sub X.1 N.1
      · exact .inr (inn e)
      · exact absurd (h.pp N hN X hX z e) gx
  · rcases K X hX px with k | ⟨k1, k2⟩
    · refine .inl fun a ha hm => ?_
      rcases List.mem_append.mp hm with hm | hm
      · exact k a ha hm
      · rw [List.mem_singleton] at hm
        exact gx (by rw [← hm]; exact ha)
    · refine .inr ⟨up k1, ?_⟩
      rcases k2 with k2 | ⟨Y, hY, y1, y2, y3⟩
      · exact .inl (List.mem_append_left _ k2)
      · exact .inr ⟨Y, hY, y1, y2, up y3⟩
end
end M

/-! P2 -/
set_option Elab.async false
set_option linter.all false
set_option maxRecDepth 100000
set_option maxHeartbeats 1000000
/-! nodes tied from below, parted from above -/
namespace M
open PySem Dl
open L2 (atI ixN)
theorem cyc_all {P : Nat → Prop} {k : Nat} (st : ∀ j, j < k → P j → P ((j + 1) % k)) {i : Nat} (hi : i < k) (h : P i) : ∀ j, j < k → P j := by
  have up : ∀ d j, i + d = j → j < k → P j := by
    intro d
    induction d with
    | zero => intro j e _; rw [← e]; exact h
    | succ d ih =>
      intro j e hj
      have := st (i + d) (by omega) (ih _ rfl (by omega))
      rw [Nat.mod_eq_of_lt (by omega)] at this
      rw [← e]; exact this
  have z : P 0 := by
    have := st (k - 1) (by omega) (up (k - 1 - i) _ (by omega) (by omega))
    rw [show k - 1 + 1 = k by omega, Nat.mod_self] at this
    exact this
  intro j
  induction j with
  | zero => exact fun _ => z
  | succ j ih =>
    intro hj
    have := st j (by omega) (ih (by omega))
    rw [Nat.mod_eq_of_lt hj] at this
    exact this
/-- nodes whose gates lead round -/
def Cyc (C : List Nd) : Prop := ∀ i, i < C.length → ∃ c d, C[i]? = some c ∧ C[(i + 1) % C.length]? = some d ∧ c.2 ∈ d.1
def Dis (C : List Nd) : Prop := C.Pairwise fun s t => ∀ a ∈ s.1, a ∉ t.1
theorem dis_eq {C : List Nd} (h : Dis C) {i j : Nat} {c d : Nd} (hi : C[i]? = some c) (hj : C[j]? = some d) {a : Int} (ha : a ∈ c.1) (hb : a ∈ d.1) : i = j := by
  obtain ⟨li, ei⟩ := List.getElem?_eq_some_iff.mp hi
  obtain ⟨lj, ej⟩ := List.getElem?_eq_some_iff.mp hj
  have p := List.pairwise_iff_getElem.mp h
  rcases Nat.lt_trichotomy i j with z | z | z
  · exact absurd hb (by have := p i j li lj z a (by rw [ei]; exact ha); rw [ej] at this; exact this)
  · exact z
  · exact absurd ha (by have := p j i lj li z a (by rw [ej]; exact hb); rw [ei] at this; exact this)
theorem cyc_take {C : List Nd} (cy : Cyc C) {U : Int → Prop} (st : ∀ c ∈ C, (∃ a ∈ c.1, U a) → (∀ a ∈ c.1, U a) ∧ U c.2) {c : Nd} (hc : c ∈ C) (hu : ∃ a ∈ c.1, U a) : ∀ d ∈ C, ∀ a ∈ d.1, U a := by
  obtain ⟨i, hi, he⟩ := List.mem_iff_getElem.mp hc
  have all := cyc_all (P := fun j => ∃ d, C[j]? = some d ∧ ∃ a ∈ d.1, U a) (k := C.length) (fun j hj ⟨d, hd, hx⟩ => by
    obtain ⟨c1, d1, h1, h2, h3⟩ := cy j hj
    rw [hd] at h1; cases h1
    exact ⟨d1, h2, d.2, h3, (st d (List.mem_of_getElem? hd) hx).2⟩) hi ⟨c, by rw [List.getElem?_eq_getElem hi, he], hu⟩
  intro d hd
  obtain ⟨j, hj, hje⟩ := List.mem_iff_getElem.mp hd
  obtain ⟨d', h1, h2⟩ := all j hj
  rw [List.getElem?_eq_getElem hj, hje] at h1
  cases h1
  exact (st d hd h2).1
theorem cyc_gate {C : List Nd} (cy : Cyc C) {c : Nd} (hc : c ∈ C) : ∃ d ∈ C, c.2 ∈ d.1 := by
  obtain ⟨i, hi, he⟩ := List.mem_iff_getElem.mp hc
  obtain ⟨c1, d1, h1, h2, h3⟩ := cy i hi
  rw [List.getElem?_eq_getElem hi, he] at h1
  cases h1
  exact ⟨d1, List.mem_of_getElem? h2, h3⟩
theorem cyc_two {C : List Nd} (di : Dis C) (ne : ∀ c ∈ C, c.1 ≠ []) (h2 : 2 ≤ C.length) {c : Nd} (hc : c ∈ C) : ∃ d ∈ C, (∃ a, a ∈ d.1) ∧ ∀ a ∈ d.1, a ∉ c.1 := by
  obtain ⟨i, hi, he⟩ := List.mem_iff_getElem.mp hc
  have : ∃ j, j < C.length ∧ j ≠ i := by
    by_cases z : i = 0
    · exact ⟨1, by omega, by omega⟩
    · exact ⟨0, by omega, by omega⟩
  obtain ⟨j, hj, hne⟩ := this
  refine ⟨C[j], List.getElem_mem hj, List.exists_mem_of_ne_nil _ (ne _ (List.getElem_mem hj)), fun a ha hb => hne ?_⟩
  exact dis_eq di (List.getElem?_eq_getElem hj) (List.getElem?_eq_getElem hi) ha (by rw [he]; exact hb)
/-! ### from below -/
structure Wi (n : Int) (F T : List Nd) : Prop where
  l : Lam n F
  cc : ∀ R ∈ F, CC F R
  ne : ∀ X ∈ F, X.1 ≠ []
  rg : ∀ X ∈ F, ∀ a ∈ X.1, 0 ≤ a ∧ a < n
  sub : ∀ t ∈ T, t ∈ F
  cov : ∀ a, 0 ≤ a → a < n → ∃ t ∈ T, a ∈ t.1
  top : ∀ X ∈ F, ∀ t ∈ T, ∀ a, a ∈ X.1 → a ∈ t.1 → Sub X.1 t.1
  dis : Dis T
theorem wi_step {n : Int} {F T T' C : List Nd} {us : List Int} {g : Int} (h : Wi n F T) (cT : ∀ c ∈ C, c ∈ T) (cy : Cyc C) (di : Dis C) (h2 : 2 ≤ C.length) (mu : ∀ a, a ∈ us ↔ ∃ c ∈ C, a ∈ c.1) (nu : us.Nodup) (gn : g ∉ us) (gr : g = -1 ∨ (0 ≤ g ∧ g < n))
    (t1 : T'.Sublist T) (t2 : ∀ t ∈ T, t ∈ T' ∨ t ∈ C) (t3 : ∀ t ∈ T', ∀ c ∈ C, ∀ a ∈ t.1, a ∉ c.1) : Wi n (F ++ [(us, g)]) (T' ++ [(us, g)]) := by
  have cF : ∀ c ∈ C, c ∈ F := fun c hc => h.sub c (cT c hc)
  have cs : ∀ c ∈ C, Sub c.1 us := fun c hc a ha => (mu a).mpr ⟨c, hc, ha⟩
  have cn : ∀ c ∈ C, ¬ Sub us c.1 := fun c hc z => by
    obtain ⟨d, hd, ⟨a, ha⟩, k⟩ := cyc_two di (fun c hc => h.ne c (cF c hc)) h2 hc
    exact k a ha (z a (cs d hd a ha))
  have inc : ∀ X ∈ F, ∀ a, a ∈ X.1 → a ∈ us → ∃ c ∈ C, Sub X.1 c.1 := fun X hX a ha hu => by
    obtain ⟨c, hc, hac⟩ := (mu a).mp hu
    exact ⟨c, hc, h.top X hX c (cT c hc) a ha hac⟩
  have c0 : ∃ c, c ∈ C := ⟨C[0], List.getElem_mem _⟩
  have une : ∃ a, a ∈ us := by
    obtain ⟨c, hc⟩ := c0
    obtain ⟨a, ha⟩ := List.exists_mem_of_ne_nil _ (h.ne c (cF c hc))
    exact ⟨a, cs c hc a ha⟩
  have nos : ∀ Y ∈ F, ¬ Sub us Y.1 := fun Y hY z => by
    obtain ⟨a, ha⟩ := une
    obtain ⟨c, hc, k⟩ := inc Y hY a (z a ha) ha
    exact cn c hc (z.trans k)
  have mem2 : ∀ {G : List Nd} {X : Nd}, X ∈ G ++ [(us, g)] → X ∈ G ∨ X = (us, g) := fun hx => by
    rcases List.mem_append.mp hx with z | z
    · exact .inl z
    · exact .inr (List.mem_singleton.mp z)
  refine ⟨⟨fun X hX => ?_, fun X hX => ?_, fun X hX Y hY a ha hb => ?_, fun X hX Y hY xy yx => ?_, fun X hX Y hY xy yx => ?_⟩, fun R hR U hu k => ?_, fun X hX => ?_, fun X hX a ha => ?_, fun t ht => ?_, fun a a0 a1 => ?_, fun X hX t ht a ha hb => ?_, ?_⟩
  · rcases mem2 hX with z | rfl
    · exact h.l.nd X z
    · exact nu
  · rcases mem2 hX with z | rfl
    · exact h.l.gt X z
    · exact ⟨gn, gr⟩
  · rcases mem2 hX with z | rfl <;> rcases mem2 hY with y | rfl
    · exact h.l.lam X z Y y a ha hb
    · obtain ⟨c, hc, k⟩ := inc X z a ha hb
      exact .inl (k.trans (cs c hc))
    · obtain ⟨c, hc, k⟩ := inc Y y a hb ha
      exact .inr (k.trans (cs c hc))
    · exact .inl (Sub.refl _)
  · rcases mem2 hX with z | rfl <;> rcases mem2 hY with y | rfl
    · exact h.l.dd X z Y y xy yx
    · exact absurd yx (nos X z)
    · exact absurd xy (nos Y y)
    · rfl
  · rcases mem2 hX with z | rfl <;> rcases mem2 hY with y | rfl
    · exact h.l.pp X z Y y xy yx
    · obtain ⟨a, ha⟩ := List.exists_mem_of_ne_nil _ (h.ne X z)
      obtain ⟨c, hc, k⟩ := inc X z a ha (xy a ha)
      by_cases e : Sub c.1 X.1
      · rw [h.l.dd X z c (cF c hc) k e]
        obtain ⟨d, hd, hg⟩ := cyc_gate cy hc
        exact cs d hd _ hg
      · exact cs c hc _ (h.l.pp X z c (cF c hc) k e)
    · exact absurd xy (nos Y y)
    · exact absurd (Sub.refl _) yx
  · rcases mem2 hR with z | rfl
    · exact h.cc R z U hu fun X hX => k X (List.mem_append_left _ hX)
    · obtain ⟨u, hu1, hu2⟩ := hu
      obtain ⟨c, hc, huc⟩ := (mu u).mp hu1
      have all := cyc_take cy (U := U) (fun c hc x => k c (List.mem_append_left _ (cF c hc)) (cs c hc) (cn c hc) x) hc ⟨u, huc, hu2⟩
      intro a ha
      obtain ⟨d, hd, had⟩ := (mu a).mp ha
      exact all d hd a had
  · rcases mem2 hX with z | rfl
    · exact h.ne X z
    · obtain ⟨a, ha⟩ := une
      exact List.ne_nil_of_mem ha
  · rcases mem2 hX with z | rfl
    · exact h.rg X z a ha
    · obtain ⟨c, hc, k⟩ := (mu a).mp ha
      exact h.rg c (cF c hc) a k
  · rcases mem2 ht with z | rfl
    · exact List.mem_append_left _ (h.sub t (t1.subset z))
    · exact List.mem_append_right _ List.mem_cons_self
  · obtain ⟨t, ht, hat⟩ := h.cov a a0 a1
    rcases t2 t ht with z | z
    · exact ⟨t, List.mem_append_left _ z, hat⟩
    · exact ⟨_, List.mem_append_right _ List.mem_cons_self, cs t z a hat⟩
  · rcases mem2 hX with z | rfl <;> rcases mem2 ht with y | rfl
    · exact h.top X z t (t1.subset y) a ha hb
    · obtain ⟨c, hc, k⟩ := inc X z a ha hb
      exact k.trans (cs c hc)
    · obtain ⟨c, hc, k⟩ := (mu a).mp ha
      exact absurd k (t3 t y c hc a hb)
    · exact Sub.refl _
  · refine List.pairwise_append.mpr ⟨h.dis.sublist t1, List.pairwise_singleton _ _, fun t ht s hs a ha hb => ?_⟩
    rw [List.mem_singleton] at hs
    subst hs
    obtain ⟨c, hc, k⟩ := (mu a).mp hb
    exact t3 t ht c hc a ha k
/-- nothing leads round -/
def NoV (T : List Nd) : Prop := ∀ V : Nd → Prop, (∃ t ∈ T, V t) → ¬ ∀ t ∈ T, V t → ∃ t' ∈ T, V t' ∧ t.2 ∈ t'.1
theorem wi_fam {n : Int} {F T : List Nd} (h : Wi n F T) (no : NoV T) : Fam n F := by
  refine ⟨h.l, h.cc, fun U ⟨u, hu⟩ ur k => ?_⟩
  obtain ⟨t, ht, hut⟩ := h.cov u (ur u hu).1 (ur u hu).2
  refine no (fun t => ∃ a ∈ t.1, U a) ⟨t, ht, u, hut, hu⟩ fun s hs hx => ?_
  have z := (k s (h.sub s hs) hx).2
  obtain ⟨t', ht', hz⟩ := h.cov s.2 (ur _ z).1 (ur _ z).2
  exact ⟨t', ht', ⟨s.2, hz, z⟩, hz⟩
/-! ### from above -/
/-- the same sets with the same gates -/
def Eqv (F G : List Nd) : Prop := (∀ X ∈ F, ∃ Y ∈ G, (∀ a, a ∈ X.1 ↔ a ∈ Y.1) ∧ X.2 = Y.2) ∧ ∀ Y ∈ G, ∃ X ∈ F, (∀ a, a ∈ X.1 ↔ a ∈ Y.1) ∧ X.2 = Y.2
theorem sub_iff {X Y X' Y' : List Int} (h : ∀ a, a ∈ X ↔ a ∈ X') (k : ∀ a, a ∈ Y ↔ a ∈ Y') : Sub X Y ↔ Sub X' Y' := ⟨fun z a ha => (k a).mp (z a ((h a).mpr ha)), fun z a ha => (k a).mpr (z a ((h a).mp ha))⟩
theorem Lam.eqv {n : Int} {F G : List Nd} (h : Lam n F) (e : Eqv F G) (nd : ∀ Y ∈ G, Y.1.Nodup) : Lam n G := by
  refine ⟨nd, fun Y hY => ?_, fun Y hY Z hZ a ha hb => ?_, fun Y hY Z hZ yz zy => ?_, fun Y hY Z hZ yz zy => ?_⟩
  · obtain ⟨X, hX, e1, e2⟩ := e.2 Y hY
    have := h.gt X hX
    rw [← e2]
    exact ⟨fun z => this.1 ((e1 _).mpr z), this.2⟩
  · obtain ⟨X, hX, e1, e2⟩ := e.2 Y hY
    obtain ⟨W, hW, f1, f2⟩ := e.2 Z hZ
    rw [← sub_iff e1 f1, ← sub_iff f1 e1]
    exact h.lam X hX W hW a ((e1 a).mpr ha) ((f1 a).mpr hb)
  · obtain ⟨X, hX, e1, e2⟩ := e.2 Y hY
    obtain ⟨W, hW, f1, f2⟩ := e.2 Z hZ
    rw [← e2, ← f2]
    exact h.dd X hX W hW ((sub_iff e1 f1).mpr yz) ((sub_iff f1 e1).mpr zy)
  · obtain ⟨X, hX, e1, e2⟩ := e.2 Y hY
    obtain ⟨W, hW, f1, f2⟩ := e.2 Z hZ
    rw [← e2, ← f1]
    exact h.pp X hX W hW ((sub_iff e1 f1).mpr yz) fun z => zy ((sub_iff f1 e1).mp z)
theorem CC.eqv {F G : List Nd} {R S : Nd} (h : CC F R) (e : Eqv F G) (rs : ∀ a, a ∈ R.1 ↔ a ∈ S.1) : CC G S := fun U ⟨u, h1, h2⟩ k a ha => by
  refine h U ⟨u, (rs u).mpr h1, h2⟩ (fun X hX x1 x2 ⟨b, hb, ub⟩ => ?_) a ((rs a).mpr ha)
  obtain ⟨Y, hY, f1, f2⟩ := e.1 X hX
  obtain ⟨k1, k2⟩ := k Y hY ((sub_iff f1 rs).mp x1) (fun z => x2 ((sub_iff rs f1).mpr z)) ⟨b, (f1 b).mp hb, ub⟩
  exact ⟨fun b hb => k1 b ((f1 b).mp hb), by rw [f2]; exact k2⟩
theorem TT.eqv {n : Int} {F G : List Nd} (h : TT n F) (e : Eqv F G) : TT n G := fun U hu ur k => h U hu ur fun X hX ⟨b, hb, ub⟩ => by
  obtain ⟨Y, hY, f1, f2⟩ := e.1 X hX
  obtain ⟨k1, k2⟩ := k Y hY ⟨b, (f1 b).mp hb, ub⟩
  exact ⟨fun b hb => k1 b ((f1 b).mp hb), by rw [f2]; exact k2⟩
structure Gi (n : Int) (D L : List Nd) : Prop where
  l : Lam n (D ++ L)
  cc : ∀ R ∈ D, CC (D ++ L) R
  tt : TT n (D ++ L)
  ne : ∀ t ∈ D ++ L, t.1 ≠ []
  rg : ∀ t ∈ L, ∀ a ∈ t.1, 0 ≤ a ∧ a < n
  leaf : ∀ t ∈ L, ∀ X ∈ D ++ L, ∀ a, a ∈ X.1 → a ∈ t.1 → Sub t.1 X.1
  dis : Dis L
theorem gi_fam {n : Int} {D : List Nd} (h : Gi n D []) : Fam n D := by
  have e : D ++ [] = D := List.append_nil D
  have l := h.l
  have cc := h.cc
  have tt := h.tt
  rw [e] at l cc tt
  exact ⟨l, cc, tt⟩
/-- the last of those that wait is taken; C: what it is parted into, if it has more places than one -/
theorem gi_step {n : Int} {D L C : List Nd} {t : Nd} {S : List Int} (h : Gi n D (L ++ [t])) (ps : S.Perm t.1) (hC : (C = [] ∧ t.1.length = 1) ∨ (Cyc C ∧ 2 ≤ C.length)) (di : Dis C) (ne : ∀ c ∈ C, c.1 ≠ []) (nd : ∀ c ∈ C, c.1.Nodup) (gn : ∀ c ∈ C, c.2 ∉ c.1)
    (mu : C ≠ [] → ∀ a, a ∈ t.1 ↔ ∃ c ∈ C, a ∈ c.1) : Gi n (D ++ [(S, t.2)]) (L ++ C) := by
  have tm : t ∈ D ++ (L ++ [t]) := List.mem_append_right _ (List.mem_append_right _ List.mem_cons_self)
  have tl : t ∈ L ++ [t] := List.mem_append_right _ List.mem_cons_self
  have st : ∀ a, a ∈ S ↔ a ∈ t.1 := fun a => ps.mem_iff
  have hc0 : ∀ c ∈ C, C ≠ [] := fun c hc => List.ne_nil_of_mem hc
  have cs : ∀ c ∈ C, Sub c.1 t.1 := fun c hc a ha => (mu (hc0 c hc) a).mpr ⟨c, hc, ha⟩
  have c2 : ∀ c ∈ C, Cyc C ∧ 2 ≤ C.length := fun c hc => by
    rcases hC with ⟨z, _⟩ | z
    · rw [z] at hc; cases hc
    · exact z
  have cn : ∀ c ∈ C, ¬ Sub t.1 c.1 := fun c hc z => by
    obtain ⟨d, hd, ⟨a, ha⟩, k⟩ := cyc_two di ne (c2 c hc).2 hc
    exact k a ha (z a (cs d hd a ha))
  have lf : ∀ X ∈ D ++ (L ++ [t]), ∀ c ∈ C, ∀ a, a ∈ X.1 → a ∈ c.1 → Sub t.1 X.1 := fun X hX c hc a ha hb => h.leaf t tl X hX a ha (cs c hc a hb)
  have cg : ∀ c ∈ C, c.2 ∈ t.1 := fun c hc => by
    obtain ⟨d, hd, k⟩ := cyc_gate (c2 c hc).1 hc
    exact cs d hd _ k
  have cc' : ∀ c ∈ C, ∀ d ∈ C, ∀ a, a ∈ c.1 → a ∈ d.1 → c = d := fun c hc d hd a ha hb => by
    obtain ⟨i, hi, ei⟩ := List.mem_iff_getElem.mp hc
    obtain ⟨j, hj, ej⟩ := List.mem_iff_getElem.mp hd
    have := dis_eq di (i := i) (j := j) (by rw [List.getElem?_eq_getElem hi, ei]) (by rw [List.getElem?_eq_getElem hj, ej]) ha hb
    subst this
    rw [← ei, ← ej]
  -- the family with the parts put behind
  have l2 : Lam n ((D ++ (L ++ [t])) ++ C) := by
    refine ⟨fun X hX => ?_, fun X hX => ?_, fun X hX Y hY a ha hb => ?_, fun X hX Y hY xy yx => ?_, fun X hX Y hY xy yx => ?_⟩
    · rcases List.mem_append.mp hX with z | z
      · exact h.l.nd X z
      · exact nd X z
    · rcases List.mem_append.mp hX with z | z
      · exact h.l.gt X z
      · exact ⟨gn X z, .inr (h.rg t tl _ (cg X z))⟩
    · rcases List.mem_append.mp hX with z | z <;> rcases List.mem_append.mp hY with y | y
      · exact h.l.lam X z Y y a ha hb
      · exact .inr ((cs Y y).trans (lf X z Y y a ha hb))
      · exact .inl ((cs X z).trans (lf Y y X z a hb ha))
      · rw [cc' X z Y y a ha hb]; exact .inl (Sub.refl _)
    · rcases List.mem_append.mp hX with z | z <;> rcases List.mem_append.mp hY with y | y
      · exact h.l.dd X z Y y xy yx
      · obtain ⟨a, ha⟩ := List.exists_mem_of_ne_nil _ (ne Y y)
        exact absurd ((lf X z Y y a (yx a ha) ha).trans xy) (cn Y y)
      · obtain ⟨a, ha⟩ := List.exists_mem_of_ne_nil _ (ne X z)
        exact absurd ((lf Y y X z a (xy a ha) ha).trans yx) (cn X z)
      · obtain ⟨a, ha⟩ := List.exists_mem_of_ne_nil _ (ne X z)
        rw [cc' X z Y y a ha (xy a ha)]
    · rcases List.mem_append.mp hX with z | z <;> rcases List.mem_append.mp hY with y | y
      · exact h.l.pp X z Y y xy yx
      · exfalso
        obtain ⟨a, ha⟩ := List.exists_mem_of_ne_nil _ (h.ne X z)
        exact cn Y y ((lf X z Y y a ha (xy a ha)).trans xy)
      · obtain ⟨a, ha⟩ := List.exists_mem_of_ne_nil _ (ne X z)
        exact lf Y y X z a (xy a ha) ha _ (cg X z)
      · obtain ⟨a, ha⟩ := List.exists_mem_of_ne_nil _ (ne X z)
        rw [cc' X z Y y a ha (xy a ha)] at yx
        exact absurd (Sub.refl _) yx
  have e : Eqv ((D ++ (L ++ [t])) ++ C) ((D ++ [(S, t.2)]) ++ (L ++ C)) := by
    refine ⟨fun X hX => ?_, fun Y hY => ?_⟩
    · simp only [List.mem_append, List.mem_singleton] at hX
      rcases hX with (z | z | rfl) | z
      · exact ⟨X, List.mem_append_left _ (List.mem_append_left _ z), fun _ => Iff.rfl, rfl⟩
      · exact ⟨X, List.mem_append_right _ (List.mem_append_left _ z), fun _ => Iff.rfl, rfl⟩
      · exact ⟨(S, X.2), List.mem_append_left _ (List.mem_append_right _ List.mem_cons_self), fun a => (st a).symm, rfl⟩
      · exact ⟨X, List.mem_append_right _ (List.mem_append_right _ z), fun _ => Iff.rfl, rfl⟩
    · simp only [List.mem_append, List.mem_singleton] at hY
      rcases hY with (z | rfl) | z | z
      · exact ⟨Y, List.mem_append_left _ (List.mem_append_left _ z), fun _ => Iff.rfl, rfl⟩
      · exact ⟨t, List.mem_append_left _ tm, fun a => (st a).symm, rfl⟩
      · exact ⟨Y, List.mem_append_left _ (List.mem_append_right _ (List.mem_append_left _ z)), fun _ => Iff.rfl, rfl⟩
      · exact ⟨Y, List.mem_append_right _ z, fun _ => Iff.rfl, rfl⟩
  have disL := List.pairwise_append.mp h.dis
  have lt_ : ∀ s ∈ L, ∀ a ∈ s.1, a ∉ t.1 := fun s hs => disL.2.2 s hs t List.mem_cons_self
  refine ⟨l2.eqv e fun Y hY => ?_, fun R hR => ?_, TT.eqv (fun U hu ur k => h.tt U hu ur fun X hX => k X (List.mem_append_left _ hX)) e, fun Y hY => ?_, fun s hs a ha => ?_, fun s hs Y hY a ha hb => ?_, ?_⟩
  · simp only [List.mem_append, List.mem_singleton] at hY
    rcases hY with (z | rfl) | z | z
    · exact h.l.nd Y (List.mem_append_left _ z)
    · exact ps.symm.nodup (h.l.nd t tm)
    · exact h.l.nd Y (List.mem_append_right _ (List.mem_append_left _ z))
    · exact nd Y z
  · rcases List.mem_append.mp hR with z | z
    · exact CC.eqv (fun U hu k => h.cc R z U hu fun X hX => k X (List.mem_append_left _ hX)) e fun _ => Iff.rfl
    · rw [List.mem_singleton] at z
      subst z
      refine CC.eqv (R := t) (fun U ⟨u, hu1, hu2⟩ k => ?_) e fun a => (st a).symm
      rcases hC with ⟨_, h1⟩ | ⟨cy, h2c⟩
      · intro a ha
        obtain ⟨x, hx⟩ := List.length_eq_one_iff.mp h1
        rw [hx, List.mem_singleton] at hu1 ha
        rw [ha, ← hu1]
        exact hu2
      · by_cases hz : C = []
        · have : C.length = 0 := by rw [hz]; rfl
          omega
        · intro a ha
          obtain ⟨c, hc, huc⟩ := (mu hz u).mp hu1
          obtain ⟨d, hd, had⟩ := (mu hz a).mp ha
          exact cyc_take cy (fun c hc x => k c (List.mem_append_right _ hc) (cs c hc) (cn c hc) x) hc ⟨u, huc, hu2⟩ d hd a had
  · simp only [List.mem_append, List.mem_singleton] at hY
    rcases hY with (z | rfl) | z | z
    · exact h.ne Y (List.mem_append_left _ z)
    · intro z
      obtain ⟨a, ha⟩ := List.exists_mem_of_ne_nil _ (h.ne t tm)
      have := (st a).mpr ha
      simp only at z
      rw [z] at this
      cases this
    · exact h.ne Y (List.mem_append_right _ (List.mem_append_left _ z))
    · exact ne Y z
  · rcases List.mem_append.mp hs with z | z
    · exact h.rg s (List.mem_append_left _ z) a ha
    · exact h.rg t tl a (cs s z a ha)
  · obtain ⟨X, hX, e1, _⟩ := e.2 Y hY
    have key : Sub s.1 X.1 := by
      have ha' := (e1 a).mpr ha
      rcases List.mem_append.mp hs with z | z <;> rcases List.mem_append.mp hX with x | x
      · exact h.leaf s (List.mem_append_left _ z) X x a ha' hb
      · exact absurd (cs X x a ha') (lt_ s z a hb)
      · exact (cs s z).trans (lf X x s z a ha' hb)
      · rw [cc' s z X x a hb ha']; exact Sub.refl _
    exact fun b hb => (e1 b).mp (key b hb)
  · exact List.pairwise_append.mpr ⟨disL.1, di, fun s hs c hc a ha hb => lt_ s hs a ha (cs c hc a hb)⟩
end M

/-! N1 -/
set_option Elab.async false
set_option linter.all false
set_option maxRecDepth 100000
set_option maxHeartbeats 1000000
/-! what is drawn -/
namespace M
open PySem Dl G
open L2 (atI ixN)
theorem fm {m n : Int} (h : 0 < n) : 0 ≤ m.fmod n ∧ m.fmod n < n := ⟨Int.fmod_nonneg_of_pos m h, Int.fmod_lt_of_pos m h⟩
theorem pick {s : List Int} {many : Int} (hs : S3 s) (h0 : 0 < many) (h1 : many < 1073741824) : ∃ d s', m__law_pick (s, many) = some (d, s') ∧ 0 ≤ d ∧ d < many ∧ S3 s' := by
  obtain ⟨a, b, c, rfl⟩ := hs
  have e0 : atI [a, b, c] 0 = some a := rfl
  unfold m__law_pick
  dsimp only
  rw [e0]
  simp only [Option.bind_some]
  by_cases ha : 0 < a
  · rw [decide_eq_true ha]
    simp only [cond_true, mod_ (show many ≠ 0 by omega), div_ (show many ≠ 0 ∧ many.natAbs < 1073741824 by omega), Option.bind_some]
    have e1 : setO [a, b, c] 0 (a.fdiv many) = some [a.fdiv many, b, c] := rfl
    rw [e1]
    exact ⟨_, _, rfl, (fm h0).1, (fm h0).2, _, _, _, rfl⟩
  · rw [decide_eq_false ha]
    have e2 : atI [a, b, c] 2 = some c := rfl
    have e3 : setO [a, b, c] 2 (c + 1) = some [a, b, c + 1] := rfl
    have e4 : atI [a, b, c + 1] 1 = some b := rfl
    have e5 : atI [a, b, c + 1] 2 = some (c + 1) := rfl
    simp only [cond_false, e2, e3, e4, e5, Option.bind_some, mul_l (m := b) (n := 69069) (by decide), mul_l (m := c + 1) (n := 40503) (by decide), mul_l (m := c + 1) (n := 30269) (by decide), mod_ (n := 2147483629) (by decide)]
    have q1 := fm (m := b * 69069 + (c + 1) * 40503 + 13) (n := 2147483629) (by decide)
    rw [mul_l (by omega)]
    simp only [Option.bind_some, mod_ (n := 2147483587) (by decide)]
    have q2 := fm (m := (b * 69069 + (c + 1) * 40503 + 13).fmod 2147483629 * (b * 69069 + (c + 1) * 40503 + 13).fmod 2147483629 + (c + 1) * 30269 + 3) (n := 2147483587) (by decide)
    rw [mul_l (by omega)]
    simp only [Option.bind_some, mul_l (n := 7) (by decide), mod_ (n := 2147483579) (by decide), div_ (n := 16) (by decide), mod_ (show many ≠ 0 by omega)]
    exact ⟨_, _, rfl, (fm h0).1, (fm h0).2, _, _, _, rfl⟩
theorem seed (ns : List Int) (k : Int) (h : 0 ≤ k) : ∃ s, m__law_seed (ns, k) = some s ∧ S3 s := by
  have e1 : ∃ f, (cond (decide ((0 : Int) < (ns.length : Int))) ((atI ns (0 : Int)).bind fun t6 => (modO (if t6 < 0 then -t6 else t6) (998244353 : Int)).bind fun t8 => some t8) (some (7 : Int))) = some f := by
    by_cases hl : (0 : Int) < (ns.length : Int)
    · obtain ⟨x, hx, _⟩ := at_ (xs := ns) (i := 0) (Int.le_refl _) hl
      rw [decide_eq_true hl, cond_true, hx]
      simp only [Option.bind_some, mod_ (n := 998244353) (by decide)]
      exact ⟨_, rfl⟩
    · rw [decide_eq_false hl]
      exact ⟨_, rfl⟩
  obtain ⟨f, e1⟩ := e1
  unfold m__law_seed
  dsimp only
  rw [e1]
  simp only [Option.bind_some]
  by_cases hk : (ns.length : Int) ≤ k
  · rw [decide_eq_true hk, cond_true]
    simp only [mul_l (n := 29) (by decide), mul_l (n := 1213) (by decide), Option.bind_some]
    exact ⟨_, rfl, _, _, _, rfl⟩
  · obtain ⟨x, hx, _⟩ := at_ (xs := ns) (i := k) h (by omega)
    rw [decide_eq_false hk, cond_false, hx]
    simp only [Option.bind_some]
    by_cases hc : ((10 : Int) ^ (18 : Int).toNat) ≤ (if x < 0 then -x else x)
    · rw [decide_eq_true hc, cond_true]
      simp only [mod_ (n := 998244353) (by decide), Option.bind_some]
      exact ⟨_, rfl, _, _, _, rfl⟩
    · rw [decide_eq_false hc, cond_false]
      simp only [mod_ (n := 998244353) (by decide), mul_l (n := 131) (by decide), Option.bind_some]
      exact ⟨_, rfl, _, _, _, rfl⟩
theorem size {s : List Int} {a b : Int} (hs : S3 s) (ha : 0 < a ∧ a ≤ 16) (hb : 0 < b ∧ b ≤ 16) : ∃ n s', m__law_size (s, a, b) = some (n, s') ∧ 1 ≤ n ∧ n ≤ 16 ∧ S3 s' := by
  obtain ⟨d, s1, e1, d1, d2, h1⟩ := pick hs (many := 16) (by decide) (by decide)
  unfold m__law_size
  dsimp only
  rw [e1, Option.bind_some]
  dsimp only
  by_cases hd : d = 0
  · rw [decide_eq_true hd, cond_true]
    exact ⟨_, _, rfl, by omega, by omega, h1⟩
  rw [decide_eq_false hd, cond_false]
  by_cases hd1 : d = 1
  · obtain ⟨d', s2, e2, d3, d4, h2⟩ := pick h1 (many := b) hb.1 (by omega)
    rw [decide_eq_true hd1, cond_true, e2, Option.bind_some]
    exact ⟨_, _, rfl, by omega, by omega, h2⟩
  · obtain ⟨d', s2, e2, d3, d4, h2⟩ := pick h1 (many := a) ha.1 (by omega)
    rw [decide_eq_false hd1, cond_false, e2, Option.bind_some]
    exact ⟨_, _, rfl, by omega, by omega, h2⟩
theorem shuffled {s : List Int} {ps : List Int} (hs : S3 s) (hl : ps.length ≤ 1000) : ∃ os s', m__law_shuffled (s, ps) = some (os, s') ∧ os.Perm ps ∧ S3 s' := by
  unfold m__law_shuffled
  dsimp only
  rw [rng (n := (ps.length : Int)) (by omega) (by omega), Option.bind_some]
  have hf := for_inv (τ := Unit) (xs := rangeI 0 (ps.length : Int)) (r := (s, ps, ([] : List Int))) (f := fun (turn13 : Int) (rr : (List Int) × (List Int) × (List Int)) => (match rr with | (state9, left10, x_order11) => ((m__law_pick (state9, (left10.length : Int))).bind fun (r17, state19) =>
      (popAtO left10 r17).bind fun (r14, left15) =>
      (appO x_order11 r14).bind fun x_order20 =>
      some (.nx (state19, left15, x_order20))) : Option (Ctl ((List Int) × (List Int) × (List Int)) Unit)))
    (fun i r => S3 r.1 ∧ r.2.1.length + i = ps.length ∧ r.2.2.length = i ∧ (r.2.2 ++ r.2.1).Perm ps) ⟨hs, rfl, rfl, .refl _⟩ (by
    rintro i x ⟨s, lf, os⟩ hx ⟨g, l1, l2, pm⟩
    obtain ⟨_, hi⟩ := rng_get hx
    simp only at l1 l2 pm
    obtain ⟨d, s1, e1, d0, d1, g1⟩ := pick g (many := (lf.length : Int)) (by omega) (by omega)
    obtain ⟨y, e2, hy⟩ := pop_at (xs := lf) d0 d1 (by omega)
    refine ⟨(s1, lf.eraseIdx d.toNat, os ++ [y]), ?_, g1, ?_, by simp [l2], ?_⟩
    · simp only [e1, e2, Option.bind_some]
      unfold appO
      rw [if_pos (by omega)]
      rfl
    · simp only
      rw [List.length_eraseIdx_of_lt (by omega)]
      omega
    · simp only
      rw [List.append_assoc]
      exact ((erase_perm hy).append_left os).trans pm)
  obtain ⟨⟨s1, lf, os⟩, e, g, l1, l2, pm⟩ := hf
  rw [e]
  simp only at l1 l2 pm
  rw [rng_len, Int.toNat_natCast] at l1
  have hlf : lf = [] := List.length_eq_zero_iff.mp (by omega)
  subst hlf
  rw [List.append_nil] at pm
  exact ⟨os, s1, rfl, pm, g⟩
theorem some_ {s : List Int} {xs : List Int} (hs : S3 s) (hl : xs.length ≤ 1000) : ∃ ys s', m__law_some (s, xs) = some (ys, s') ∧ ys.Sublist xs ∧ S3 s' := by
  unfold m__law_some lcO
  dsimp only
  rw [if_pos (by omega)]
  obtain ⟨ys, s', e, sub, g⟩ := lc_sel (tf := fun (thing : Int) (rr : (List Int)) => match rr with | state => (m__law_pick (state, (2 : Int))).bind fun (r1, state3) => some ((decide (r1 = (1 : Int))), state3)) S3 (xs := xs) hs fun x r g => by
    obtain ⟨d, s1, e1, _, _, g1⟩ := pick g (many := 2) (by decide) (by decide)
    exact ⟨decide (d = 1), s1, by simp only [e1, Option.bind_some], g1⟩
  rw [e]
  exact ⟨ys, s', rfl, sub, g⟩
/-- some of them, each once -/
def Sel (row r : List Int) : Prop := r.Nodup ∧ ∀ a ∈ r, a ∈ row
theorem sel_len {row r : List Int} (h : Sel row r) : r.length ≤ row.length := nodup_len h.1 h.2
theorem shuf_some {s : List Int} {xs : List Int} (hs : S3 s) (nd : xs.Nodup) (hl : xs.length ≤ 1000) : ∃ ys s1 zs s', m__law_some (s, xs) = some (ys, s1) ∧ m__law_shuffled (s1, ys) = some (zs, s') ∧ Sel xs zs ∧ S3 s' := by
  obtain ⟨ys, s1, e1, sub, g1⟩ := some_ hs hl
  obtain ⟨zs, s2, e2, pm, g2⟩ := shuffled (ps := ys) g1 (by have := sub.length_le; omega)
  exact ⟨ys, s1, zs, s2, e1, e2, ⟨pm.symm.nodup (sub.nodup nd), fun a ha => sub.subset (pm.subset ha)⟩, g2⟩
theorem few {s : List Int} {xs : List Int} (hs : S3 s) (nd : xs.Nodup) (hl : xs.length ≤ 1000) : ∃ r s', m__law_few (s, xs) = some (r, s') ∧ Sel xs r ∧ S3 s' := by
  obtain ⟨d, s1, e1, d0, d1, g1⟩ := pick hs (many := 6) (by decide) (by decide)
  unfold m__law_few
  dsimp only
  rw [e1, Option.bind_some]
  dsimp only
  by_cases c0 : d = 0
  · rw [decide_eq_true c0, cond_true]
    exact ⟨_, _, rfl, ⟨.nil, fun a h => nomatch h⟩, g1⟩
  rw [decide_eq_false c0, cond_false]
  by_cases c1 : d = 1
  · obtain ⟨zs, s2, e2, pm, g2⟩ := shuffled (ps := xs) g1 hl
    rw [decide_eq_true c1, cond_true, e2, Option.bind_some]
    exact ⟨_, _, rfl, ⟨pm.symm.nodup nd, fun a h => pm.subset h⟩, g2⟩
  rw [decide_eq_false c1, cond_false]
  by_cases c2 : d = 2
  · obtain ⟨zs, s2, e2, pm, g2⟩ := shuffled (ps := xs) g1 hl
    obtain ⟨k, s3, e3, k0, k1, g3⟩ := pick g2 (many := 2) (by decide) (by decide)
    rw [decide_eq_true c2, cond_true, e2, Option.bind_some]
    dsimp only
    rw [e3, Option.bind_some]
    refine ⟨_, _, rfl, ?_, g3⟩
    have : (cut zs none (some ((1 : Int) + k))).Sublist zs := by
      unfold cut
      exact (List.take_sublist ..).trans (List.drop_sublist ..)
    exact ⟨this.nodup (pm.symm.nodup nd), fun a h => pm.subset (this.subset h)⟩
  · obtain ⟨ys, s2, zs, s3, e2, e3, sel, g3⟩ := shuf_some g1 nd hl
    rw [decide_eq_false c2, cond_false, e2, Option.bind_some]
    dsimp only
    rw [e3, Option.bind_some]
    exact ⟨_, _, rfl, sel, g3⟩
theorem stranger {s : List Int} {n : Int} (hs : S3 s) (h0 : 0 ≤ n) : ∃ z s', m__law_stranger (s, n) = some (z, s') ∧ ¬ (0 ≤ z ∧ z < n) ∧ S3 s' := by
  obtain ⟨a, s1, e1, a0, a1, g1⟩ := pick hs (many := 20) (by decide) (by decide)
  obtain ⟨b, s2, e2, b0, b1, g2⟩ := pick g1 (many := 9) (by decide) (by decide)
  obtain ⟨c, s3, e3, c0, c1, g3⟩ := pick g2 (many := 4) (by decide) (by decide)
  obtain ⟨z, h1, h2⟩ := at_ (xs := [n, (-(1 : Int)), ((n + (1 : Int)) + a), ((-(2 : Int)) - b)]) (i := c) c0 c1
  unfold m__law_stranger
  dsimp only
  rw [e1, Option.bind_some]
  dsimp only
  rw [e2, Option.bind_some]
  dsimp only
  rw [e3, Option.bind_some]
  dsimp only
  rw [h1, Option.bind_some]
  refine ⟨z, s3, rfl, ?_, g3⟩
  have := List.mem_of_getElem? h2
  simp only [List.mem_cons, List.not_mem_nil, or_false] at this
  rcases this with rfl | rfl | rfl | rfl <;> omega
theorem copy_ {t : List (List Int)} (h : t.length ≤ 1000000) : m__law_copy t = some t := by
  unfold m__law_copy
  dsimp only
  rw [lcO_all id h fun _ _ => rfl]
  simp
end M

/-! N2 -/
set_option Elab.async false
set_option linter.all false
set_option maxRecDepth 100000
set_option maxHeartbeats 1000000
/-! books, lists of places, first open entries -/
namespace M
open PySem Dl G
open L2 (atI ixN)
def badC (n p : Int) (c : List Int) (i : Int) : Bool := !(decide ((0 : Int) ≤ c.getD i.toNat 0) && decide (c.getD i.toNat 0 < n)) || (decide (c.getD i.toNat 0 = p) || decide (c.getD i.toNat 0 ∈ c.take i.toNat))
def cardB (n p : Int) (c : List Int) : Bool := !(rangeI 0 (c.length : Int)).any (badC n p c)
def CardOk (n p : Int) (c : List Int) : Prop := c.Nodup ∧ ∀ a ∈ c, 0 ≤ a ∧ a < n ∧ a ≠ p
theorem getD_at {c : List Int} {i : Nat} (h : i < c.length) : c.getD i 0 = c[i] := by rw [List.getD_eq_getElem?_getD, List.getElem?_eq_getElem h]; rfl
theorem nodup_take : ∀ {c : List Int}, c.Nodup ↔ ∀ i (h : i < c.length), c[i] ∉ c.take i := by
  intro c
  constructor
  · intro nd i h hm
    obtain ⟨j, hj, he⟩ := List.mem_iff_getElem.mp hm
    rw [List.getElem_take] at he
    have := (List.getElem_inj nd).mp he
    rw [List.length_take] at hj
    omega
  · intro h
    rw [List.nodup_iff_pairwise_ne, List.pairwise_iff_getElem]
    intro i j hi hj hij e
    exact h j hj (by rw [← e, List.mem_take_iff_getElem]; exact ⟨i, by omega, rfl⟩)
theorem cardB_iff {n p : Int} {c : List Int} : cardB n p c = true ↔ CardOk n p c := by
  unfold cardB CardOk
  rw [Bool.not_eq_true', List.any_eq_false, nodup_take]
  constructor
  · intro h
    have k : ∀ i (hi : i < c.length), (0 ≤ c[i] ∧ c[i] < n ∧ c[i] ≠ p) ∧ c[i] ∉ c.take i := fun i hi => by
      have := h (i : Int) (mem_rng.mpr ⟨by omega, by omega⟩)
      unfold badC at this
      rw [Int.toNat_natCast, getD_at hi] at this
      simp only [Bool.or_eq_true, Bool.not_eq_true', Bool.and_eq_false_iff, decide_eq_false_iff_not, decide_eq_true_eq, not_or] at this
      obtain ⟨⟨h1, h2⟩, h3, h4⟩ := this
      exact ⟨⟨by omega, by omega, h3⟩, h4⟩
    refine ⟨fun i hi => (k i hi).2, fun a ha => ?_⟩
    obtain ⟨i, hi, rfl⟩ := List.mem_iff_getElem.mp ha
    exact (k i hi).1
  · rintro ⟨h1, h2⟩ i hi
    rw [mem_rng] at hi
    have hl : i.toNat < c.length := by omega
    have := h2 c[i.toNat] (List.getElem_mem hl)
    unfold badC
    rw [getD_at hl, decide_eq_true this.1, decide_eq_true this.2.1, decide_eq_false this.2.2, decide_eq_false (h1 _ hl)]
    simp
theorem is_card {n p : Int} {c : List Int} (hl : c.length ≤ 1000000) : m_is_card (n, p, c) = some (cardB n p c) := by
  unfold m_is_card
  dsimp only
  rw [rng (by omega) (by omega), Option.bind_some, for_any (badC n p c) false]
  · unfold cardB
    cases (rangeI 0 (c.length : Int)).any (badC n p c) <;> rfl
  · intro i hi
    rw [mem_rng] at hi
    rw [at_p 0 hi.1 hi.2, Option.bind_some]
    have e : cut c none (some i) = c.take i.toNat := by
      rw [show i = ((i.toNat : Nat) : Int) by omega, cut_to (by omega), Int.toNat_natCast]
    rw [e]
    show cond (badC n p c i) _ _ = some (if badC n p c i = true then _ else _)
    cases badC n p c i <;> rfl
theorem len_of_ok {n p : Int} {c : List Int} (h : CardOk n p c) : c.length ≤ n.toNat := by
  have := nodup_len (L := rangeI 0 n) h.1 fun a ha => by
    have := h.2 a ha
    exact mem_rng.mpr ⟨this.1, this.2.1⟩
  rw [rng_len] at this
  exact this
def BookOk (book : List (List Int)) : Prop := 1 ≤ book.length ∧ book.length ≤ 16 ∧ ∀ p, p < book.length → CardOk book.length p (book.getD p [])
theorem bk_len {book : List (List Int)} (h : BookOk book) {p : Nat} (hp : p < book.length) : (book.getD p []).length ≤ 16 := by
  have := len_of_ok (h.2.2 p hp)
  have := h.2.1
  omega
/-- the first wrong card -/
theorem check_find {book : List (List Int)} (h1 : 1 ≤ book.length) (h2 : book.length ≤ 16) (hl : ∀ p, p < book.length → (book.getD p []).length ≤ 1000000) : m_check_book book = some (match (rangeI 0 (book.length : Int)).find? (fun p => !cardB book.length p (book.getD p.toNat [])) with
    | some p => .error (.one "BadBook" "place" p)
    | none => .ok ()) := by
  unfold m_check_book
  have e1 : (!(decide ((1 : Int) ≤ (book.length : Int)) && decide ((book.length : Int) ≤ (16 : Int)))) = false := by
    rw [decide_eq_true (by omega), decide_eq_true (by omega)]; rfl
  rw [e1, cond_false, rng (by omega) (by omega), Option.bind_some, for_find (fun p => !cardB book.length p (book.getD p.toNat [])) (fun p => .error (.one "BadBook" "place" p))]
  · cases (rangeI 0 (book.length : Int)).find? (fun p => !cardB book.length p (book.getD p.toNat [])) <;> rfl
  · intro p hp
    rw [mem_rng] at hp
    rw [at_p [] hp.1 hp.2, Option.bind_some, is_card (hl _ (by omega)), Option.bind_some]
    cases cardB book.length p (book.getD p.toNat []) <;> rfl
theorem check_book {book : List (List Int)} (h : BookOk book) : m_check_book book = some (.ok ()) := by
  rw [check_find h.1 h.2.1 fun p hp => by have := bk_len h hp; omega]
  have : (rangeI 0 (book.length : Int)).find? (fun p => !cardB book.length p (book.getD p.toNat [])) = none := by
    rw [List.find?_eq_none]
    intro p hp
    rw [mem_rng] at hp
    have := h.2.2 p.toNat (by omega)
    rw [Int.toNat_of_nonneg hp.1] at this
    rw [cardB_iff.mpr this]
    decide
  rw [this]
theorem check_wrong {book : List (List Int)} {k : Nat} (h1 : 1 ≤ book.length) (h2 : book.length ≤ 16) (hl : ∀ p, p < book.length → (book.getD p []).length ≤ 1000000) (hk : k < book.length) (hb : ¬ CardOk book.length k (book.getD k [])) (hg : ∀ p, p < k → CardOk book.length p (book.getD p [])) : m_check_book book = some (.error (.one "BadBook" "place" (k : Int))) := by
  rw [check_find h1 h2 hl]
  have hlt : k < (rangeI 0 (book.length : Int)).length := by rw [rng_len]; omega
  have hk2 : (rangeI 0 (book.length : Int))[k] = (k : Int) := (rng_get (List.getElem?_eq_getElem hlt)).1
  have : (rangeI 0 (book.length : Int)).find? (fun p => !cardB book.length p (book.getD p.toNat [])) = some (k : Int) := by
    rw [List.find?_eq_some_iff_getElem]
    refine ⟨?_, k, hlt, hk2, fun j hj => ?_⟩
    · rw [Int.toNat_natCast]
      cases hc : cardB book.length k (book.getD k []) with
      | false => rfl
      | true => exact absurd (cardB_iff.mp hc) hb
    · have hj2 : (rangeI 0 (book.length : Int))[j] = (j : Int) := (rng_get (List.getElem?_eq_getElem (by omega))).1
      rw [hj2, Int.toNat_natCast, cardB_iff.mpr (hg j hj)]
      rfl
  rw [this]
theorem check_size {book : List (List Int)} (h : ¬ (1 ≤ book.length ∧ book.length ≤ 16)) : m_check_book book = some (.error (.one "BadBook" "place" (-1))) := by
  unfold m_check_book
  have e1 : (!(decide ((1 : Int) ≤ (book.length : Int)) && decide ((book.length : Int) ≤ (16 : Int)))) = true := by
    rw [Bool.not_eq_true', Bool.and_eq_false_iff, decide_eq_false_iff_not, decide_eq_false_iff_not]; omega
  rw [e1, cond_true]
theorem check_places {n : Int} (ps : List Int) (h0 : 1 ≤ n) (h1 : n ≤ 16) (hl : ps.length ≤ 900000) : m_check_places (n, ps) = some (match (List.range ps.length).find? (badPl n ps) with
    | some i => .error (.one "BadPlace" "place" (ps.getD i 0))
    | none => .ok (isort ps)) := by
  unfold m_check_places
  have e : (!(decide ((1 : Int) ≤ n) && decide (n ≤ (16 : Int)))) = false := by
    rw [Bool.not_eq_false', Bool.and_eq_true, decide_eq_true_eq, decide_eq_true_eq]; omega
  simp only [e, cond_false, rng (n := (ps.length : Int)) (by omega) (by omega), Option.bind_some, rng_nat]
  rw [for_find (fun x : Int => badPl n ps x.toNat) (fun x => .error (.one "BadPlace" "place" (ps.getD x.toNat 0)))]
  · rw [List.find?_map]
    have eb : ((fun x : Int => badPl n ps x.toNat) ∘ fun k : Nat => (k : Int)) = badPl n ps := rfl
    rw [eb]
    cases hf : (List.range ps.length).find? (badPl n ps) with
    | none => rfl
    | some p => rfl
  · intro x hx
    obtain ⟨p, hp, rfl⟩ := List.mem_map.mp hx
    rw [List.mem_range] at hp
    rw [at_n 0 hp, Int.toNat_natCast, cut_to (by omega)]
    simp only [Option.bind_some]
    unfold badPl
    generalize ps.getD p 0 = v
    generalize decide (v ∈ ps.take p) = b2
    cases (decide (0 ≤ v) && decide (v < n)) <;> cases b2 <;> rfl
theorem places_ok {n : Int} {ps : List Int} (h0 : 1 ≤ n) (h1 : n ≤ 16) (nd : ps.Nodup) (hr : ∀ a ∈ ps, 0 ≤ a ∧ a < n) : m_check_places (n, ps) = some (.ok (isort ps)) := by
  have hl : ps.length ≤ (rangeI 0 n).length := nodup_len nd fun a ha => mem_rng.mpr (hr a ha)
  rw [rng_len] at hl
  rw [check_places ps h0 h1 (by omega)]
  have : (List.range ps.length).find? (badPl n ps) = none := by
    rw [List.find?_eq_none]
    intro i hi
    rw [List.mem_range] at hi
    have hm := hr ps[i] (List.getElem_mem hi)
    unfold badPl
    rw [getD_at hi, decide_eq_true hm.1, decide_eq_true hm.2, decide_eq_false (nodup_take.mp nd i hi)]
    simp
  rw [this]
theorem place_one {n p : Int} (h0 : 1 ≤ n) (h1 : n ≤ 16) (p0 : 0 ≤ p) (p1 : p < n) : m_check_places (n, [p]) = some (.ok [p]) :=
  places_ok h0 h1 (by simp) fun a ha => by rw [List.mem_singleton] at ha; rw [ha]; exact ⟨p0, p1⟩
/-- the first entry that is not listed, or home -/
def fo (card listed : List Int) : Int := match card.find? (fun x => !decide (x ∈ listed)) with | some x => x | none => -1
theorem first_outside (card listed : List Int) : m_first_outside (card, listed) = some (fo card listed) := by
  unfold m_first_outside fo
  dsimp only
  rw [for_find (fun x => !decide (x ∈ listed)) id]
  · cases card.find? (fun x => !decide (x ∈ listed)) <;> rfl
  · intro x _
    cases decide (x ∈ listed) <;> rfl
theorem open_ (card listed : List Int) : m__law_open (card, listed) = some (fo card listed) := by
  unfold m__law_open fo
  dsimp only
  rw [for_find (fun x => !decide (x ∈ listed)) id]
  · cases card.find? (fun x => !decide (x ∈ listed)) <;> rfl
  · intro x _
    cases decide (x ∈ listed) <;> rfl
theorem fo_cases (card listed : List Int) : (fo card listed = -1 ∧ ∀ a ∈ card, a ∈ listed) ∨ (fo card listed ∈ card ∧ fo card listed ∉ listed) := by
  unfold fo
  cases h : card.find? (fun x => !decide (x ∈ listed)) with
  | none =>
    rw [List.find?_eq_none] at h
    refine .inl ⟨rfl, fun a ha => ?_⟩
    have := h a ha
    simpa using this
  | some x =>
    refine .inr ⟨List.mem_of_find?_eq_some h, ?_⟩
    have := List.find?_some h
    simpa using this
theorem fo_congr {card l m : List Int} (h : ∀ a ∈ card, a ∈ l ↔ a ∈ m) : fo card l = fo card m := by
  unfold fo
  have : card.find? (fun x => !decide (x ∈ l)) = card.find? (fun x => !decide (x ∈ m)) := by
    induction card with
    | nil => rfl
    | cons c cs ih =>
      rw [List.find?_cons, List.find?_cons, ih fun a ha => h a (List.mem_cons_of_mem _ ha)]
      have : decide (c ∈ l) = decide (c ∈ m) := by rw [decide_eq_decide]; exact h c List.mem_cons_self
      rw [this]
  rw [this]
/-- rows are the same -/
theorem same_row (r : List Int) (hl : r.length ≤ 1000000) : m__law_same (r, r) = some true := by
  unfold m__law_same
  dsimp only
  rw [decide_eq_true rfl, Bool.not_true, Bool.or_false, cond_false, rng (by omega) (by omega), Option.bind_some, for_nx]
  · rfl
  · intro i hi
    rw [mem_rng] at hi
    rw [at_p 0 hi.1 hi.2, Option.bind_some]
    simp [m__law_whole]
theorem same_rows (t : List (List Int)) (hl : t.length ≤ 1000000) (hr : ∀ r ∈ t, r.length ≤ 1000000) : m__law_same_rows (t, t) = some true := by
  unfold m__law_same_rows
  dsimp only
  rw [decide_eq_true rfl, Bool.not_true, Bool.or_false, cond_false, rng (by omega) (by omega), Option.bind_some, for_nx]
  · rfl
  · intro i hi
    rw [mem_rng] at hi
    rw [at_p [] hi.1 hi.2, Option.bind_some, Option.bind_some, same_row _ (hr _ (by
      have hl : i.toNat < t.length := by omega
      rw [List.getD_eq_getElem?_getD, List.getElem?_eq_getElem hl]
      exact List.getElem_mem hl)), Option.bind_some]
    rfl
end M

/-! N3 -/
set_option Elab.async false
set_option linter.all false
set_option maxRecDepth 100000
set_option maxHeartbeats 1000000
/-! arrows, what is ahead, first open places -/
namespace M
open PySem Dl G
open L2 (atI ixN)
theorem bk_row {book : List (List Int)} (h : BookOk book) {p : Int} (p0 : 0 ≤ p) (p1 : p < book.length) : atI book p = some (book.getD p.toNat []) ∧ CardOk book.length p (book.getD p.toNat []) := by
  refine ⟨at_p [] p0 p1, ?_⟩
  have := h.2.2 p.toNat (by omega)
  rw [Int.toNat_of_nonneg p0] at this
  exact this
/-- entries up to the first that stops, or all and home -/
def arr (stop : Int → Bool) : List Int → List Int
  | [] => [-1]
  | x :: xs => if stop x then [x] else x :: arr stop xs
theorem arr_len (stop : Int → Bool) : ∀ c : List Int, (arr stop c).length ≤ c.length + 1
  | [] => by simp [arr]
  | x :: xs => by
    unfold arr
    have := arr_len stop xs
    split <;> simp <;> omega
theorem arr_congr {s t : Int → Bool} : ∀ {c : List Int}, (∀ a ∈ c, s a = t a) → arr s c = arr t c
  | [], _ => rfl
  | x :: xs, h => by
    unfold arr
    rw [h x List.mem_cons_self, arr_congr fun a ha => h a (List.mem_cons_of_mem _ ha)]
theorem idx_ne {x e : Int} {xs : List Int} (h : x ≠ e) : (x :: xs).idxOf e = xs.idxOf e + 1 := by
  rw [List.idxOf_cons, show (x == e) = false by simpa using h]
  rfl
/-- what stands in the row of arrows: an entry with none that stops ahead of it, or home if none stops -/
theorem arr_mem {stop : Int → Bool} {e : Int} : ∀ {c : List Int}, e ∈ arr stop c → (e ∈ c ∧ ∀ a ∈ c.take (c.idxOf e), stop a = false) ∨ (e = -1 ∧ ∀ a ∈ c, stop a = false)
  | [], h => by
    simp [arr] at h
    exact .inr ⟨h, fun a ha => nomatch ha⟩
  | x :: xs, h => by
    unfold arr at h
    by_cases hx : stop x = true
    · rw [if_pos hx, List.mem_singleton] at h
      subst h
      exact .inl ⟨List.mem_cons_self, by rw [List.idxOf_cons_self]; simp⟩
    · rw [if_neg hx] at h
      have hx' : stop x = false := by simpa using hx
      rcases List.mem_cons.mp h with rfl | h
      · exact .inl ⟨List.mem_cons_self, by rw [List.idxOf_cons_self]; simp⟩
      · rcases arr_mem h with ⟨h1, h2⟩ | ⟨h1, h2⟩
        · left
          refine ⟨List.mem_cons_of_mem _ h1, ?_⟩
          by_cases hxe : x = e
          · subst hxe; rw [List.idxOf_cons_self]; simp
          · rw [idx_ne hxe, List.take_succ_cons]
            intro a ha
            rcases List.mem_cons.mp ha with rfl | ha
            · exact hx'
            · exact h2 a ha
        · right
          exact ⟨h1, fun a ha => by
            rcases List.mem_cons.mp ha with rfl | ha
            · exact hx'
            · exact h2 a ha⟩
theorem arr_loop (stop : Int → Bool) {f : Int → List Int → Option (Ctl (List Int) (List Int))} (hf : ∀ x r, r.length < 1000000 → f x r = some (if stop x then .rt (r ++ [x]) else .nx (r ++ [x]))) : ∀ {c r : List Int}, r.length + c.length < 1000000 →
    finK (fun (e : List Int) => (catO e [(-1 : Int)]).bind fun t => some t) (fun (tt : List Int) => some tt) (forL f c r) = some (r ++ arr stop c)
  | [], r, hl => by
    unfold forL
    show (catO r [(-1 : Int)]).bind _ = _
    rw [show catO r [(-1 : Int)] = some (r ++ [-1]) by unfold catO; rw [if_pos (by simp at hl ⊢; omega)]]
    rfl
  | x :: c, r, hl => by
    rw [List.length_cons] at hl
    unfold forL arr
    rw [hf x r (by omega)]
    by_cases hx : stop x = true
    · simp only [hx, if_true]
      rfl
    · have hx' : stop x = false := by simpa using hx
      simp only [hx', Bool.false_eq_true, if_false]
      rw [arr_loop stop hf (c := c) (r := r ++ [x]) (by simp; omega), List.append_assoc]
      rfl
theorem arrow_ends {c k : List Int} (hl : c.length < 1000) : m_arrow_ends (c, k) = some (arr (fun x => decide (x ∈ k)) c) := by
  unfold m_arrow_ends
  have := arr_loop (fun x => decide (x ∈ k)) (f := fun (entry6 : Int) (ends4 : (List Int)) => ((appO ends4 entry6).bind fun ends7 =>
    cond (decide (entry6 ∈ k)) (some (.rt ends7)) (some (.nx ends7)) : Option (Ctl (List Int) (List Int)))) (fun x r hr => by
      unfold appO
      rw [if_pos hr, Option.bind_some]
      by_cases h : x ∈ k <;> simp [h]) (c := c) (r := []) (by simp; omega)
  rw [List.nil_append] at this
  exact this
theorem arrow_row {c s : List Int} (hl : c.length < 1000) : m__law_arrow_row (c, s) = some (arr (fun x => !decide (x ∈ s)) c) := by
  unfold m__law_arrow_row
  have := arr_loop (fun x => !decide (x ∈ s)) (f := fun (place6 : Int) (row4 : (List Int)) => ((appO row4 place6).bind fun row7 =>
    cond (!decide (place6 ∈ s)) (some (.rt row7)) (some (.nx row7)) : Option (Ctl (List Int) (List Int)))) (fun x r hr => by
      unfold appO
      rw [if_pos hr, Option.bind_some]
      by_cases h : x ∈ s <;> simp [h]) (c := c) (r := []) (by simp; omega)
  rw [List.nil_append] at this
  exact this
/-- kept places, the others -/
def Apart (n : Nat) (kept shut : List Int) : Prop := kept.Nodup ∧ shut.Nodup ∧ (∀ a ∈ kept, 0 ≤ a ∧ a < n) ∧ (∀ a ∈ shut, 0 ≤ a ∧ a < n) ∧ ∀ a, 0 ≤ a → a < (n : Int) → (a ∈ shut ↔ a ∉ kept)
def due (book : List (List Int)) (shut : List Int) : List (List Int) := (rangeI 0 (book.length : Int)).map fun p => if p ∈ shut then arr (fun x => !decide (x ∈ shut)) (book.getD p.toNat []) else []
theorem arrows {book : List (List Int)} {kept shut : List Int} (h : BookOk book) (ap : Apart book.length kept shut) : m_arrows (book, kept) = some (.ok (due book shut)) := by
  have b1 := h.1
  have b2 := h.2.1
  unfold m_arrows
  dsimp only
  rw [check_book h, Option.bind_some]
  dsimp only
  rw [places_ok (by omega) (by omega) ap.1 ap.2.2.1, Option.bind_some]
  dsimp only
  rw [lcO_all (fun pr : Int × List Int => if pr.1 ∈ shut then arr (fun x => !decide (x ∈ shut)) pr.2 else []) (by rw [enum_map []]; simp; omega)]
  · rw [Option.bind_some]
    dsimp only
    unfold due
    rw [enum_map [], rng_nat, List.map_map, List.map_map]
    rfl
  · intro pr hpr
    rw [enum_map [], List.mem_map] at hpr
    obtain ⟨p, hp, rfl⟩ := hpr
    rw [List.mem_range] at hp
    dsimp only
    have hc := h.2.2 p hp
    have ms : ((p : Int) ∈ isort kept) ↔ ¬ (p : Int) ∈ shut := by
      rw [(isort_perm kept).mem_iff, ap.2.2.2.2 (p : Int) (by omega) (by omega)]
      simp
    by_cases hs : (p : Int) ∈ shut
    · rw [decide_eq_false (fun z => ms.mp z hs), cond_false, arrow_ends (by have := bk_len h hp; omega), Option.bind_some, Option.bind_some, if_pos hs]
      congr 2
      refine arr_congr fun a ha => ?_
      have := hc.2 a ha
      rw [Bool.eq_iff_iff, decide_eq_true_eq, Bool.not_eq_true', decide_eq_false_iff_not, (isort_perm kept).mem_iff, ap.2.2.2.2 a this.1 this.2.1]
      simp
    · rw [decide_eq_true (ms.mpr hs), cond_true, Option.bind_some, if_neg hs]
theorem due_len {book : List (List Int)} {shut : List Int} (h : BookOk book) : (due book shut).length = book.length ∧ ∀ r ∈ due book shut, r.length ≤ 17 := by
  unfold due
  refine ⟨by rw [List.length_map, rng_len]; omega, fun r hr => ?_⟩
  rw [List.mem_map] at hr
  obtain ⟨p, hp, rfl⟩ := hr
  rw [mem_rng] at hp
  have := bk_len h (p := p.toNat) (by omega)
  have := arr_len (fun x => !decide (x ∈ shut)) (book.getD p.toNat [])
  split
  · omega
  · simp
theorem arrows_right {book : List (List Int)} {kept shut : List Int} (h : BookOk book) (ap : Apart book.length kept shut) : m__law_arrows_right (book, kept, shut) = some true := by
  have b1 := h.1
  have b2 := h.2.1
  obtain ⟨d1, d2⟩ := due_len (shut := shut) h
  unfold m__law_arrows_right
  dsimp only
  rw [copy_ (by omega), Option.bind_some, rng (by omega) (by omega), Option.bind_some]
  rw [lcO_all (fun p => if p ∈ shut then arr (fun x => !decide (x ∈ shut)) (book.getD p.toNat []) else []) (by rw [rng_len]; omega)]
  · rw [Option.bind_some]
    dsimp only
    rw [rng (by decide) (by decide), Option.bind_some, for_nx]
    · rfl
    · intro t _
      rw [arrows h ap]
      show (Option.bind (some (due book shut)) _) = _
      rw [Option.bind_some]
      have hd : ((rangeI 0 (book.length : Int)).map fun p => if p ∈ shut then arr (fun x => !decide (x ∈ shut)) (book.getD p.toNat []) else []) = due book shut := rfl
      rw [hd, same_rows _ (by omega) fun r hr => by have := d2 r hr; omega, Option.bind_some]
      simp only [decide_true, Bool.not_true, Bool.or_false, cond_false]
      unfold spoilO
      rw [if_pos (List.all_eq_true.mpr fun r hr => decide_eq_true (by have := d2 r hr; omega))]
      rfl
  · intro p hp
    rw [mem_rng] at hp
    by_cases hs : p ∈ shut
    · rw [decide_eq_true hs, cond_true, at_p [] hp.1 hp.2, Option.bind_some, arrow_row (by have := bk_len h (p := p.toNat) (by omega); omega), Option.bind_some, Option.bind_some, if_pos hs]
    · rw [decide_eq_false hs, cond_false, Option.bind_some, if_neg hs]
theorem idxF_of {e : Int} : ∀ {c : List Int}, e ∈ c → idxF e c = some (c.idxOf e)
  | [], h => nomatch h
  | x :: xs, h => by
    unfold idxF
    by_cases hx : x = e
    · subst hx
      rw [if_pos rfl, List.idxOf_cons_self]
    · rw [if_neg hx, idxF_of ((List.mem_cons.mp h).resolve_left fun z => hx z.symm), idx_ne hx]
      rfl
theorem idx_of {c : List Int} {e : Int} (h : e ∈ c) : idxO c e = some (c.idxOf e : Int) := by
  unfold idxO
  rw [idxF_of h]
  rfl
theorem idx_le {c : List Int} {e : Int} (h : e ∈ c) : c.idxOf e ≤ c.length := Nat.le_of_lt (List.idxOf_lt_length_of_mem h)
theorem places_ahead {book : List (List Int)} {p g : Int} (h : BookOk book) (p0 : 0 ≤ p) (p1 : p < book.length) (g0 : 0 ≤ g) (g1 : g < book.length) : m_places_ahead (book, p, g) = some (.ok (if g = p then some [] else if g ∈ book.getD p.toNat [] then some (p :: (book.getD p.toNat []).take ((book.getD p.toNat []).idxOf g)) else none)) := by
  have b1 := h.1
  have b2 := h.2.1
  obtain ⟨r1, r2⟩ := bk_row h p0 p1
  have rl := bk_len h (p := p.toNat) (by omega)
  unfold m_places_ahead
  dsimp only
  rw [check_book h, Option.bind_some]
  dsimp only
  rw [place_one (by omega) (by omega) p0 p1, Option.bind_some]
  dsimp only
  rw [place_one (by omega) (by omega) g0 g1, Option.bind_some]
  dsimp only
  rw [r1, Option.bind_some]
  by_cases hg : g = p
  · rw [decide_eq_true hg, cond_true, if_pos hg]
  · rw [decide_eq_false hg, cond_false, if_neg hg]
    by_cases hm : g ∈ book.getD p.toNat []
    · rw [decide_eq_true hm, Bool.not_true, cond_false, if_pos hm, idx_of hm, Option.bind_some, cut_to (idx_le hm), cat1 (by rw [List.length_singleton, List.length_take]; omega), Option.bind_some]
      rfl
    · rw [decide_eq_false hm, Bool.not_false, cond_true, if_neg hm]
theorem ahead_right {book : List (List Int)} {p : Int} (h : BookOk book) (p0 : 0 ≤ p) (p1 : p < book.length) : m__law_ahead_right (book, p) = some true := by
  have b1 := h.1
  have b2 := h.2.1
  obtain ⟨r1, r2⟩ := bk_row h p0 p1
  have rl := bk_len h (p := p.toNat) (by omega)
  unfold m__law_ahead_right
  dsimp only
  rw [copy_ (by omega), Option.bind_some, r1, Option.bind_some, rng (by omega) (by omega), Option.bind_some, for_nx]
  · show some (decide (book = book)) = some true
    rw [decide_eq_true rfl]
  · intro g hg
    rw [mem_rng] at hg
    rw [rng (by decide) (by decide), Option.bind_some, for_nx]
    · rfl
    · intro t _
      rw [places_ahead h p0 p1 hg.1 hg.2]
      show (Option.bind (some _) _) = _
      rw [Option.bind_some]
      by_cases hgp : g = p
      · rw [if_pos hgp, decide_eq_true hgp, Bool.not_true, Bool.false_and, cond_false, cond_false, Option.bind_some]
        show (Option.bind (some ([] : List Int)) _) = _
        rw [Option.bind_some, same_row _ (by simp), Option.bind_some]
        rfl
      · rw [if_neg hgp, decide_eq_false hgp, Bool.not_false, Bool.true_and]
        by_cases hm : g ∈ book.getD p.toNat []
        · have hl : (p :: (book.getD p.toNat []).take ((book.getD p.toNat []).idxOf g)).length ≤ 17 := by
            rw [List.length_cons, List.length_take]
            omega
          rw [if_pos hm, decide_eq_true hm, Bool.not_true, cond_false, cond_true, idx_of hm, Option.bind_some, cut_to (idx_le hm), cat1 (by rw [List.length_singleton, List.length_take]; omega), Option.bind_some, Option.bind_some]
          show (Option.bind (some (p :: (book.getD p.toNat []).take ((book.getD p.toNat []).idxOf g))) _) = _
          rw [Option.bind_some]
          show (Option.bind (m__law_same (p :: (book.getD p.toNat []).take ((book.getD p.toNat []).idxOf g), p :: (book.getD p.toNat []).take ((book.getD p.toNat []).idxOf g))) _) = _
          rw [same_row _ (by omega), Option.bind_some, Bool.not_true, cond_false]
          show (Option.bind (some (p :: (book.getD p.toNat []).take ((book.getD p.toNat []).idxOf g))) _) = _
          rw [Option.bind_some]
          unfold spoil1O
          rw [if_pos (by omega)]
          rfl
        · rw [if_neg hm, decide_eq_false hm, Bool.not_false, cond_true]
          rfl
theorem first_open {book : List (List Int)} {p : Int} {shut : List Int} (h : BookOk book) (p0 : 0 ≤ p) (p1 : p < book.length) (nd : shut.Nodup) (hr : ∀ a ∈ shut, 0 ≤ a ∧ a < book.length) : m_first_open (book, p, shut) = some (.ok (fo (book.getD p.toNat []) shut)) := by
  have b1 := h.1
  have b2 := h.2.1
  obtain ⟨r1, r2⟩ := bk_row h p0 p1
  unfold m_first_open
  dsimp only
  rw [check_book h, Option.bind_some]
  dsimp only
  rw [place_one (by omega) (by omega) p0 p1, Option.bind_some]
  dsimp only
  rw [places_ok (by omega) (by omega) nd hr, Option.bind_some]
  dsimp only
  rw [r1, Option.bind_some, first_outside, Option.bind_some]
/-- a walk of turns that may stop, and may not answer otherwise -/
theorem for_bk {α ρ τ : Type} {f : α → ρ → Option (Ctl ρ τ)} (I : ρ → Prop) : ∀ {xs : List α} {r : ρ}, I r → (∀ x r, x ∈ xs → I r → ∃ r', I r' ∧ (f x r = some (.nx r') ∨ f x r = some (.bk r'))) → ∃ r', forL f xs r = some (.nx r') ∧ I r'
  | [], r, h, _ => ⟨r, rfl, h⟩
  | x :: xs, r, h, st => by
    obtain ⟨r1, h1, e | e⟩ := st x r List.mem_cons_self h
    · obtain ⟨r2, e2, h2⟩ := for_bk I (xs := xs) h1 fun y r hy hr => st y r (List.mem_cons_of_mem _ hy) hr
      refine ⟨r2, ?_, h2⟩
      unfold forL
      rw [e]
      exact e2
    · refine ⟨r1, ?_, h1⟩
      unfold forL
      rw [e]
theorem ins_perm {xs : List Int} (k : Nat) (x : Int) : (xs.take k ++ [x] ++ xs.drop k).Perm (x :: xs) := by
  rw [List.append_assoc, List.singleton_append]
  refine List.perm_middle.trans ?_
  rw [List.take_append_drop]
theorem ins_ {xs : List Int} {i : Int} (x : Int) (h0 : 0 ≤ i) (h1 : i < 1000000) (hl : xs.length < 1000000) : insO xs i x = some (xs.take i.toNat ++ [x] ++ xs.drop i.toNat) := by
  unfold insO
  rw [if_pos ⟨h0, h1, hl⟩]
theorem opens_right {s : List Int} {book : List (List Int)} {p : Int} (hs : S3 s) (h : BookOk book) (p0 : 0 ≤ p) (p1 : p < book.length) : ∃ s', m__law_opens_right (s, book, p) = some (true, s') ∧ S3 s' := by
  have b1 := h.1
  have b2 := h.2.1
  obtain ⟨r1, r2⟩ := bk_row h p0 p1
  have rl := bk_len h (p := p.toNat) (by omega)
  obtain ⟨sh, s1, e1, sel, g1⟩ := few (xs := rangeI 0 (book.length : Int)) hs (rng_nodup _) (by rw [rng_len]; omega)
  unfold m__law_opens_right
  dsimp only
  rw [copy_ (by omega), Option.bind_some, rng (by omega) (by omega), Option.bind_some, e1, Option.bind_some]
  dsimp only
  rw [r1, Option.bind_some, rng (by omega) (by omega), Option.bind_some]
  obtain ⟨⟨s2, sh2⟩, e2, g2, _⟩ := for_bk (τ := Bool × List Int) (ρ := List Int × List Int) (xs := rangeI 0 (((book.getD p.toNat []).length : Int) + 1)) (r := (s1, sh)) (f := fun (turn21 : Int) (rr : (List Int) × (List Int)) => (match rr with | (state18, shut19) => ((okO (m_first_open (book, p, shut19))).bind fun r25 =>
    (m__law_whole r25).bind fun r30 =>
    (cond (!r30) (some true) ((some (book.getD p.toNat [])).bind fun t32 => (m__law_open (t32, shut19)).bind fun r34 => some ((!decide (r25 = r34)) || (!decide (shut19 = shut19))))).bind fun b36 =>
    cond b36 (some (.rt (false, state18))) (cond (decide (r25 < (0 : Int))) (some (.bk (state18, shut19))) ((m__law_pick (state18, ((shut19.length : Int) + (1 : Int)))).bind fun (r41, state43) =>
    (insO shut19 r41 r25).bind fun shut44 =>
    some (.nx (state43, shut44))))) : Option (Ctl ((List Int) × (List Int)) (Bool × (List Int)))))
    (fun r => S3 r.1 ∧ r.2.Nodup ∧ ∀ a ∈ r.2, 0 ≤ a ∧ a < book.length) ⟨g1, sel.1, fun a ha => mem_rng.mp (sel.2 a ha)⟩ (by
    rintro t ⟨s, sh⟩ ht ⟨g, nd, hr⟩
    simp only at nd hr
    have hl : sh.length ≤ (rangeI 0 (book.length : Int)).length := nodup_len nd fun a ha => mem_rng.mpr (hr a ha)
    rw [rng_len] at hl
    dsimp only
    rw [first_open h p0 p1 nd hr]
    show ∃ r', _ ∧ ((Option.bind (some _) _) = _ ∨ (Option.bind (some _) _) = _)
    simp only [Option.bind_some, m__law_whole, Bool.not_false, Bool.and_true, Bool.not_true, cond_false, r1, open_, decide_true, Bool.or_false]
    by_cases hn : fo (book.getD p.toNat []) sh < 0
    · rw [decide_eq_true hn]
      exact ⟨(s, sh), ⟨g, nd, hr⟩, .inr rfl⟩
    · rw [decide_eq_false hn, cond_false]
      obtain ⟨d, s2, e2, d0, d1, g2⟩ := pick g (many := (sh.length : Int) + 1) (by omega) (by omega)
      rw [e2, Option.bind_some]
      dsimp only
      rw [ins_ _ d0 (by omega) (by omega), Option.bind_some]
      refine ⟨_, ⟨g2, ?_, ?_⟩, .inl rfl⟩
      · have pm := ins_perm (xs := sh) d.toNat (fo (book.getD p.toNat []) sh)
        rcases fo_cases (book.getD p.toNat []) sh with ⟨z, _⟩ | ⟨z1, z2⟩
        · omega
        · exact pm.symm.nodup (List.nodup_cons.mpr ⟨z2, nd⟩)
      · intro a ha
        have pm := ins_perm (xs := sh) d.toNat (fo (book.getD p.toNat []) sh)
        rcases List.mem_cons.mp (pm.subset ha) with rfl | ha
        · rcases fo_cases (book.getD p.toNat []) sh with ⟨z, _⟩ | ⟨z1, z2⟩
          · omega
          · have := r2.2 _ z1
            exact ⟨this.1, this.2.1⟩
        · exact hr a ha)
  refine ⟨s2, (congrArg (finK _ _) e2).trans ?_, g2⟩
  show some (decide (book = book), s2) = _
  rw [decide_eq_true rfl]
end M

/-! N4 -/
set_option Elab.async false
set_option linter.all false
set_option maxRecDepth 100000
set_option maxHeartbeats 1000000
/-! ways -/
namespace M
open PySem Dl G
open L2 (atI ixN)
def NewsOk (n : Nat) (shut : List Int) (known : List (List Int)) : Prop := known.length = n ∧ ∀ r ∈ known, Sel shut r
theorem lies_in {a b : List Int} (hl : a.length ≤ 1000000) : m_lies_in (a, b) = some (a.all fun x => decide (x ∈ b)) := by
  unfold m_lies_in
  dsimp only
  rw [lcO_all (fun p => decide (p ∈ b)) hl fun _ _ => rfl, Option.bind_some]
  dsimp only
  congr 1
  rw [List.all_map]
  rfl
theorem check_news {n : Nat} {shut : List Int} {known : List (List Int)} (hn : n ≤ 16) (hs : shut.length ≤ 16) (h : NewsOk n shut known) : m_check_news ((n : Int), shut, known) = some (.ok ()) := by
  unfold m_check_news
  dsimp only
  rw [decide_eq_true (by rw [h.1]), Bool.not_true, cond_false, for_nx]
  · rfl
  · intro pr hpr
    rw [enum_map [], List.mem_map] at hpr
    obtain ⟨p, hp, rfl⟩ := hpr
    rw [List.mem_range] at hp
    have hm : known.getD p [] ∈ known := by rw [List.getD_eq_getElem?_getD, List.getElem?_eq_getElem hp]; exact List.getElem_mem hp
    have hr := h.2 _ hm
    have hl := sel_len hr
    dsimp only
    unfold lenSetO
    rw [if_pos ⟨hr.1, by omega⟩, Option.bind_some, decide_eq_true rfl, Bool.not_true, cond_false, lies_in (by omega), Option.bind_some, Option.bind_some]
    have : ((known.getD p []).all fun x => decide (x ∈ shut)) = true := List.all_eq_true.mpr fun a ha => decide_eq_true (hr.2 a ha)
    rw [this]
    rfl
def la (W : List Int) : Int := W.getD (W.length - 1) 0
theorem la_at {W : List Int} (h : W ≠ []) : atI W (-1) = some (la W) := by
  have := List.length_pos_iff.mpr h
  exact at_m1 0 (show W.length = (W.length - 1) + 1 by omega)
theorem la_app (W : List Int) (x : Int) : la (W ++ [x]) = x := by
  unfold la
  rw [List.length_append, List.length_singleton, Nat.add_sub_cancel, List.getD_eq_getElem?_getD, List.getElem?_append_right (Nat.le_refl _), Nat.sub_self]
  rfl
def nxt (book known : List (List Int)) (W : List Int) : Int := fo (book.getD (la W).toNat []) (known.getD (la W).toNat [] ++ W)
def go (book known : List (List Int)) (shut : List Int) : Nat → List Int → List Int
  | 0, W => W
  | k + 1, W => if la W ∈ shut then go book known shut k (W ++ [nxt book known W]) else W
theorem go_pre {book known : List (List Int)} {shut : List Int} : ∀ (k : Nat) (W : List Int), ∃ T, go book known shut k W = W ++ T ∧ T.length ≤ k
  | 0, W => ⟨[], (List.append_nil W).symm, Nat.le_refl _⟩
  | k + 1, W => by
    unfold go
    split
    · obtain ⟨T, e, hl⟩ := go_pre k (W ++ [nxt book known W])
      refine ⟨nxt book known W :: T, by rw [e, List.append_assoc]; rfl, by simp; omega⟩
    · exact ⟨[], (List.append_nil W).symm, Nat.zero_le _⟩
/-- a way so far -/
structure Wy (n : Nat) (shut W : List Int) : Prop where
  ne : W ≠ []
  nd : W.Nodup
  ini : ∀ a ∈ W.dropLast, 0 ≤ a ∧ a < (n : Int)
theorem wy_len {n : Nat} {shut W : List Int} (h : Wy n shut W) : W.length ≤ n + 1 := by
  have := nodup_len (L := rangeI 0 (n : Int)) (h.nd.sublist (List.dropLast_sublist W)) fun a ha => mem_rng.mpr (h.ini a ha)
  rw [rng_len, List.length_dropLast] at this
  omega
theorem wy_split {W : List Int} (h : W ≠ []) : W = W.dropLast ++ [la W] := by
  have h1 := List.dropLast_concat_getLast h
  have : W.getLast h = la W := by
    unfold la
    rw [List.getLast_eq_getElem, List.getD_eq_getElem?_getD, List.getElem?_eq_getElem (by have := List.length_pos_iff.mpr h; omega)]
    rfl
  rw [this] at h1
  exact h1.symm
theorem wy_in {n : Nat} {shut W : List Int} (h : Wy n shut W) (hs : ∀ a ∈ shut, 0 ≤ a ∧ a < (n : Int)) (hl : la W ∈ shut) : ∀ a ∈ W, 0 ≤ a ∧ a < (n : Int) := by
  intro a ha
  rw [wy_split h.ne] at ha
  rcases List.mem_append.mp ha with ha | ha
  · exact h.ini a ha
  · rw [List.mem_singleton] at ha
    rw [ha]
    exact hs _ hl
def wayF (book known : List (List Int)) (shut : List Int) : Int → List Int → Option (Ctl (List Int) Unit) := (fun (turn8 : Int) (way6 : (List Int)) => ((atI way6 (-(1 : Int))).bind fun t9 =>
      cond (!decide (t9 ∈ shut)) (some (.bk way6)) ((atI way6 (-(1 : Int))).bind fun t12 =>
      (atI book t12).bind fun t14 =>
      (atI way6 (-(1 : Int))).bind fun t16 =>
      (atI known t16).bind fun t18 =>
      (catO t18 way6).bind fun t22 =>
      (m__law_open (t14, t22)).bind fun r23 =>
      (appO way6 r23).bind fun way25 =>
      some (.nx way25)) : Option (Ctl (List Int) Unit)))
def trvF (book known : List (List Int)) (shut : List Int) : List Int → Option (Option (Ctl (List Int) Unit)) := (fun (way16 : (List Int)) => ((atI way16 (-(1 : Int))).bind fun t18 =>
      cond (decide (t18 ∈ shut)) ((atI way16 (-(1 : Int))).bind fun t21 =>
      (atI book t21).bind fun t26 =>
      (atI known t21).bind fun t28 =>
      (catO t28 way16).bind fun t32 =>
      (m_first_outside (t26, t32)).bind fun r33 =>
      (appO way16 r33).bind fun way35 =>
      some (some (.nx way35))) (some none) : Option (Option (Ctl (List Int) Unit))))
section
variable {book known : List (List Int)} {shut : List Int}
theorem wy_next (hb : BookOk book) (hs : ∀ a ∈ shut, 0 ≤ a ∧ a < (book.length : Int)) {W : List Int} (h : Wy book.length shut W) (hl : la W ∈ shut) : Wy book.length shut (W ++ [nxt book known W]) := by
  have hin := wy_in h hs hl
  refine ⟨by simp, ?_, fun a ha => ?_⟩
  · rw [List.nodup_append]
    refine ⟨h.nd, by simp, fun a ha b hb' e => ?_⟩
    rw [List.mem_singleton] at hb'
    subst e
    rcases fo_cases (book.getD (la W).toNat []) (known.getD (la W).toNat [] ++ W) with ⟨z, _⟩ | ⟨_, z⟩
    · have := hin a ha
      rw [hb'] at this
      unfold nxt at this
      omega
    · rw [hb'] at ha
      exact z (List.mem_append_right _ ha)
  · rw [List.dropLast_concat] at ha
    exact hin a ha
theorem step_at (hb : BookOk book) (hk : NewsOk book.length shut known) (hs : ∀ a ∈ shut, 0 ≤ a ∧ a < (book.length : Int)) (hsl : shut.length ≤ 16) {W : List Int} (h : Wy book.length shut W) (hl : la W ∈ shut) :
    atI W (-1) = some (la W) ∧ atI book (la W) = some (book.getD (la W).toNat []) ∧ atI known (la W) = some (known.getD (la W).toNat []) ∧ catO (known.getD (la W).toNat []) W = some (known.getD (la W).toNat [] ++ W) ∧ appO W (nxt book known W) = some (W ++ [nxt book known W]) := by
  have hr := hs _ hl
  have hw := wy_len h
  have b2 := hb.2.1
  have kl := hk.1
  have hm : known.getD (la W).toNat [] ∈ known := by rw [List.getD_eq_getElem?_getD, List.getElem?_eq_getElem (by omega)]; exact List.getElem_mem _
  have := sel_len (hk.2 _ hm)
  refine ⟨la_at h.ne, at_p [] hr.1 hr.2, at_p [] hr.1 (by omega), cat1 (by omega), ?_⟩
  unfold appO
  rw [if_pos (by omega)]
theorem way_loop (hb : BookOk book) (hk : NewsOk book.length shut known) (hs : ∀ a ∈ shut, 0 ≤ a ∧ a < (book.length : Int)) (hsl : shut.length ≤ 16) : ∀ (k : Nat) {W : List Int} {xs : List Int}, Wy book.length shut W → xs.length = k → book.length + 2 ≤ k + W.length →
    forL (wayF book known shut) xs W = some (.nx (go book known shut k W)) ∧
    whF (trvF book known shut) k W = some (.nx (go book known shut k W))
  | 0, W, xs, h, _, hm => by
    have := wy_len h
    omega
  | k + 1, W, [], h, hl, hm => by simp at hl
  | k + 1, W, x :: xs, h, hl, hm => by
    by_cases hc : la W ∈ shut
    · obtain ⟨s1, s2, s3, s4, s5⟩ := step_at hb hk hs hsl h hc
      obtain ⟨i1, i2⟩ := way_loop hb hk hs hsl k (W := W ++ [nxt book known W]) (xs := xs) (wy_next hb hs h hc) (by simpa using hl) (by rw [List.length_append, List.length_singleton]; omega)
      have f1 : wayF book known shut x W = some (.nx (W ++ [nxt book known W])) := by
        unfold wayF
        simp only [s1, Option.bind_some, decide_eq_true hc, Bool.not_true, cond_false, s2, s3, s4, open_]
        rw [show fo (book.getD (la W).toNat []) (known.getD (la W).toNat [] ++ W) = nxt book known W from rfl, s5]
        rfl
      have f2 : trvF book known shut W = some (some (.nx (W ++ [nxt book known W]))) := by
        unfold trvF
        simp only [s1, Option.bind_some, decide_eq_true hc, cond_true, s2, s3, s4, first_outside]
        rw [show fo (book.getD (la W).toNat []) (known.getD (la W).toNat [] ++ W) = nxt book known W from rfl, s5]
        rfl
      constructor
      · unfold forL go
        rw [if_pos hc, f1]
        exact i1
      · unfold whF go
        rw [if_pos hc, f2]
        exact i2
    · have s1 := la_at h.ne
      have f1 : wayF book known shut x W = some (.bk W) := by
        unfold wayF
        simp only [s1, Option.bind_some, decide_eq_false hc, Bool.not_false, cond_true]
      have f2 : trvF book known shut W = some none := by
        unfold trvF
        simp only [s1, Option.bind_some, decide_eq_false hc, cond_false]
      constructor
      · unfold forL go
        rw [if_neg hc, f1]
      · unfold whF go
        rw [if_neg hc, f2]
theorem wy_one (p : Int) : Wy book.length shut [p] := ⟨by simp, by simp, fun a ha => by simp at ha⟩
theorem travel (hb : BookOk book) (hk : NewsOk book.length shut known) (nd : shut.Nodup) (hs : ∀ a ∈ shut, 0 ≤ a ∧ a < (book.length : Int)) {p : Int} (p0 : 0 ≤ p) (p1 : p < book.length) : m_travel (book, shut, known, p) = some (.ok (go book known shut (book.length + 1) [p])) := by
  have b1 := hb.1
  have b2 := hb.2.1
  have hsl : shut.length ≤ (rangeI 0 (book.length : Int)).length := nodup_len nd fun a ha => mem_rng.mpr (hs a ha)
  rw [rng_len] at hsl
  unfold m_travel
  dsimp only
  rw [check_book hb, Option.bind_some]
  dsimp only
  rw [places_ok (by omega) (by omega) nd hs, Option.bind_some]
  dsimp only
  rw [check_news (by omega) (by omega) hk, Option.bind_some]
  dsimp only
  rw [place_one (by omega) (by omega) p0 p1, Option.bind_some]
  dsimp only
  refine (congrArg (finK _ _) (way_loop hb hk hs (by omega) (book.length + 1) (W := [p]) (xs := rangeI 0 ((book.length : Int) + 1)) (wy_one p) (by rw [rng_len]; omega) (by simp)).2).trans ?_
  rfl
theorem way_ (hb : BookOk book) (hk : NewsOk book.length shut known) (nd : shut.Nodup) (hs : ∀ a ∈ shut, 0 ≤ a ∧ a < (book.length : Int)) {p : Int} : m__law_way (book, shut, known, p) = some (go book known shut (book.length + 1) [p]) := by
  have b1 := hb.1
  have b2 := hb.2.1
  have hsl : shut.length ≤ (rangeI 0 (book.length : Int)).length := nodup_len nd fun a ha => mem_rng.mpr (hs a ha)
  rw [rng_len] at hsl
  unfold m__law_way
  dsimp only
  rw [rng (by omega) (by omega), Option.bind_some]
  refine (congrArg (finK _ _) (way_loop hb hk hs (by omega) (book.length + 1) (W := [p]) (xs := rangeI 0 ((book.length : Int) + 1)) (wy_one p) (by rw [rng_len]; omega) (by simp)).1).trans ?_
  rfl
theorem way_right (hb : BookOk book) (hk : NewsOk book.length shut known) (nd : shut.Nodup) (hs : ∀ a ∈ shut, 0 ≤ a ∧ a < (book.length : Int)) {p : Int} (p0 : 0 ≤ p) (p1 : p < book.length) : m__law_way_right (book, shut, known, p) = some true := by
  have b2 := hb.2.1
  have k1 := hk.1
  unfold m__law_way_right
  dsimp only
  rw [copy_ (by omega), Option.bind_some, copy_ (by omega), Option.bind_some, travel hb hk nd hs p0 p1]
  show (Option.bind (some _) _) = _
  rw [Option.bind_some]
  have e0 : ((!decide (book = book)) || ((!decide (known = known)) || (!decide (shut = shut)))) = false := by simp
  rw [e0, cond_false, way_ hb hk nd hs, Option.bind_some]
  obtain ⟨T, e, hl⟩ := go_pre (book := book) (known := known) (shut := shut) (book.length + 1) [p]
  rw [same_row _ (by rw [e]; simp; omega), Option.bind_some]
end
end M

/-! N5 -/
set_option Elab.async false
set_option linter.all false
set_option maxRecDepth 100000
set_option maxHeartbeats 1000000
/-! first moves -/
namespace M
open PySem Dl G
open L2 (atI ixN)
theorem news {s : List Int} {shut : List Int} {n : Nat} (hs : S3 s) (nd : shut.Nodup) (hl : shut.length ≤ 1000) (hn : n ≤ 16) : ∃ k s', m__law_news (s, shut, (n : Int)) = some (k, s') ∧ NewsOk n shut k ∧ S3 s' := by
  unfold m__law_news
  dsimp only
  rw [rng (by omega) (by omega), Option.bind_some]
  obtain ⟨ys, s', e, yl, yj, g⟩ := lcO_st (ef := fun (place : Int) (rr : (List Int)) => match rr with | state => (m__law_some (state, shut)).bind fun (r3, state5) => (m__law_shuffled (state5, r3)).bind fun (r6, state8) => some (r6, state8)) (xs := rangeI 0 (n : Int)) (r := s) S3 (Sel shut) (by rw [rng_len]; omega) hs fun x r hx g => by
    obtain ⟨ys, s1, zs, s2, e1, e2, sel, g2⟩ := shuf_some g nd hl
    refine ⟨zs, s2, ?_, sel, g2⟩
    dsimp only
    rw [e1, Option.bind_some]
    dsimp only
    rw [e2, Option.bind_some]
  rw [e]
  exact ⟨ys, s', rfl, ⟨by rw [yl, rng_len]; omega, yj⟩, g⟩
section
variable {book known : List (List Int)} {shut : List Int}
theorem go_one (k : Nat) {p : Int} (hp : p ∈ shut) : ∃ T, go book known shut (k + 1) [p] = p :: nxt book known [p] :: T := by
  unfold go
  rw [if_pos (show la [p] ∈ shut from hp)]
  obtain ⟨T, e, _⟩ := go_pre (book := book) (known := known) (shut := shut) k ([p] ++ [nxt book known [p]])
  exact ⟨T, e⟩
theorem nxt_one (p : Int) : nxt book known [p] = fo (book.getD p.toNat []) (known.getD p.toNat [] ++ [p]) := rfl
theorem fo_take {c : List Int} {e : Int} (nd : c.Nodup) (h : e ∈ c) : fo c (c.take (c.idxOf e)) = e := by
  unfold fo
  have hlt := List.idxOf_lt_length_of_mem h
  have : c.find? (fun x => !decide (x ∈ c.take (c.idxOf e))) = some e := by
    rw [List.find?_eq_some_iff_getElem]
    have he : c[c.idxOf e] = e := List.getElem_idxOf hlt
    refine ⟨?_, c.idxOf e, hlt, he, fun j hj => ?_⟩
    · have := nodup_take.mp nd (c.idxOf e) hlt
      rw [he] at this
      rw [decide_eq_false this]
      rfl
    · have : c[j] ∈ c.take (c.idxOf e) := by
        rw [List.mem_take_iff_getElem]
        exact ⟨j, by omega, rfl⟩
      rw [decide_eq_true this]
      rfl
  rw [this]
theorem fo_arr {stop : Int → Bool} {L : List Int} : ∀ {c : List Int}, (∀ a ∈ c, a ∈ L → stop a = false) → fo c L ∈ arr stop c
  | [], _ => by
    show (-1 : Int) ∈ [(-1 : Int)]
    simp
  | x :: xs, h => by
    unfold arr
    by_cases hx : x ∈ L
    · rw [if_neg (by rw [h x List.mem_cons_self hx]; decide)]
      have : fo (x :: xs) L = fo xs L := by
        unfold fo
        rw [List.find?_cons, decide_eq_true hx]
        rfl
      rw [this]
      exact List.mem_cons_of_mem _ (fo_arr fun a ha => h a (List.mem_cons_of_mem _ ha))
    · have : fo (x :: xs) L = x := by
        unfold fo
        rw [List.find?_cons, decide_eq_false hx]
        rfl
      rw [this]
      split <;> exact List.mem_cons_self
theorem news_set (h : NewsOk book.length shut known) {p : Int} {r : List Int} (p0 : 0 ≤ p) (p1 : p < book.length) (hr : Sel shut r) : setO known p r = some (known.set p.toNat r) ∧ NewsOk book.length shut (known.set p.toNat r) ∧ (known.set p.toNat r).getD p.toNat [] = r := by
  have kl := h.1
  refine ⟨set_ r p0 (by omega), ⟨by rw [List.length_set]; exact kl, fun x hx => ?_⟩, ?_⟩
  · rcases List.mem_or_eq_of_mem_set hx with hx | rfl
    · exact h.2 x hx
    · exact hr
  · rw [List.getD_eq_getElem?_getD, List.getElem?_set_self (by omega)]
    rfl
/-- a first move -/
theorem trav1 (hb : BookOk book) (hk : NewsOk book.length shut known) (nd : shut.Nodup) (hs : ∀ a ∈ shut, 0 ≤ a ∧ a < (book.length : Int)) {p : Int} (hp : p ∈ shut) : ∃ r, okO (m_travel (book, shut, known, p)) = some r ∧ atI r 1 = some (fo (book.getD p.toNat []) (known.getD p.toNat [] ++ [p])) := by
  obtain ⟨T, e⟩ := go_one (book := book) (known := known) book.length hp
  rw [travel hb hk nd hs (hs p hp).1 (hs p hp).2, e]
  exact ⟨_, rfl, at_n (xs := p :: nxt book known [p] :: T) (e := 1) 0 (by simp)⟩
theorem moves_right {s : List Int} (gs : S3 s) (hb : BookOk book) (nd : shut.Nodup) (hs : ∀ a ∈ shut, 0 ≤ a ∧ a < (book.length : Int)) {p : Int} (hp : p ∈ shut) : ∃ s', m__law_moves_right (s, book, shut, p) = some (true, s') ∧ S3 s' := by
  have b1 := hb.1
  have b2 := hb.2.1
  obtain ⟨p0, p1⟩ := hs p hp
  have hsl : shut.length ≤ (rangeI 0 (book.length : Int)).length := nodup_len nd fun a ha => mem_rng.mpr (hs a ha)
  rw [rng_len] at hsl
  obtain ⟨r1, r2⟩ := bk_row hb p0 p1
  have rl := bk_len hb (p := p.toNat) (by omega)
  unfold m__law_moves_right
  dsimp only
  rw [r1, Option.bind_some, arrow_row (by omega), Option.bind_some]
  generalize hc : book.getD p.toNat [] = c at *
  obtain ⟨s1, e1, g1⟩ := for_bk (τ := Bool × List Int) (ρ := List Int) (xs := arr (fun x => !decide (x ∈ shut)) c) (r := s) (f := fun (x_end16 : Int) (state14 : (List Int)) => ((cond (decide ((0 : Int) ≤ x_end16)) ((idxO c x_end16).bind fun t22 =>
    some (cut c none (some t22))) (some c)).bind fun ahead21 =>
    (m__law_news (state14, shut, (book.length : Int))).bind fun (r29, state31) =>
    (m__law_shuffled (state31, ahead21)).bind fun (r35, state37) =>
    (setO r29 p r35).bind fun known38 =>
    (m__law_way_right (book, shut, known38, p)).bind fun r41 =>
    (cond (!r41) (some true) ((m__law_copy book).bind fun r43 => (okO (m_travel (r43, shut, known38, p))).bind fun r45 => (atI r45 (1 : Int)).bind fun t47 => some (!decide (t47 = x_end16)))).bind fun b49 =>
    cond b49 (some (.rt (false, state37))) (some (.nx state37)) : Option (Ctl (List Int) (Bool × (List Int))))) S3 gs (by
    intro e s he g
    have key : ∃ ah, (cond (decide ((0 : Int) ≤ e)) ((idxO c e).bind fun t22 => some (cut c none (some t22))) (some c)) = some ah ∧ ah.Nodup ∧ (∀ a ∈ ah, a ∈ shut) ∧ fo c ah = e := by
      rcases arr_mem he with ⟨h1, h2⟩ | ⟨h1, h2⟩
      · have := r2.2 e h1
        rw [decide_eq_true this.1, cond_true, idx_of h1, Option.bind_some, cut_to (idx_le h1)]
        exact ⟨_, rfl, r2.1.sublist (List.take_sublist ..), fun a ha => by simpa using h2 a ha, fo_take r2.1 h1⟩
      · subst h1
        rw [decide_eq_false (by decide), cond_false]
        refine ⟨c, rfl, r2.1, fun a ha => by simpa using h2 a ha, ?_⟩
        rcases fo_cases c c with ⟨z, _⟩ | ⟨z1, z2⟩
        · exact z
        · exact absurd z1 z2
    obtain ⟨ah, k1, k2, k3, k4⟩ := key
    have al := nodup_len k2 k3
    obtain ⟨kn, s2, e2, nk, g2⟩ := news (n := book.length) g nd (by omega) (by omega)
    obtain ⟨sh, s3, e3, pm, g3⟩ := shuffled (ps := ah) g2 (by omega)
    obtain ⟨n1, n2, n3⟩ := news_set nk p0 p1 (r := sh) ⟨pm.symm.nodup k2, fun a ha => k3 a (pm.subset ha)⟩
    obtain ⟨r, t1, t2⟩ := trav1 hb n2 nd hs hp
    rw [n3, hc] at t2
    have ht : fo c (sh ++ [p]) = e := by
      rw [← k4]
      refine fo_congr fun a ha => ?_
      rw [List.mem_append, pm.mem_iff, List.mem_singleton]
      have := (r2.2 a ha).2.2
      constructor
      · rintro (z | z)
        · exact z
        · exact absurd z this
      · exact .inl
    rw [ht] at t2
    refine ⟨s3, g3, .inl ?_⟩
    rw [k1, Option.bind_some, e2, Option.bind_some]
    dsimp only
    rw [e3, Option.bind_some]
    dsimp only
    rw [n1, Option.bind_some, way_right hb n2 nd hs p0 p1, Option.bind_some, Bool.not_true, cond_false, copy_ (by omega), Option.bind_some, t1, Option.bind_some, t2, Option.bind_some, Option.bind_some, decide_eq_true rfl]
    rfl)
  have tail : ∀ s, S3 s → ∃ s', finK (fun (state14 : (List Int)) => ((m__law_news (state14, shut, (book.length : Int))).bind fun (r57, state59) =>
      (m__law_way_right (book, shut, r57, p)).bind fun r63 =>
      (cond (!r63) (some true) ((m__law_copy book).bind fun r65 => (okO (m_travel (r65, shut, r57, p))).bind fun r67 => (atI r67 (1 : Int)).bind fun t69 => some (!decide (t69 ∈ arr (fun x => !decide (x ∈ shut)) c)))).bind fun b71 =>
      cond b71 (some (false, state59)) ((m__law_news (state59, shut, (book.length : Int))).bind fun (r76, state78) =>
      (m__law_way_right (book, shut, r76, p)).bind fun r82 =>
      (cond (!r82) (some true) ((m__law_copy book).bind fun r84 => (okO (m_travel (r84, shut, r76, p))).bind fun r86 => (atI r86 (1 : Int)).bind fun t88 => some (!decide (t88 ∈ arr (fun x => !decide (x ∈ shut)) c)))).bind fun b90 =>
      cond b90 (some (false, state78)) ((m__law_shuffled (state78, shut)).bind fun (r94, state96) =>
      (setO r76 p r94).bind fun known97 =>
      (m__law_copy book).bind fun r100 =>
      (okO (m_travel (r100, shut, known97, p))).bind fun r102 =>
      (m__law_open (c, shut)).bind fun r104 =>
      (m__law_same (r102, [p, r104])).bind fun r106 =>
      some (r106, state96))))) (fun (tt : Bool × (List Int)) => some tt) (some (.nx s)) = some (true, s') ∧ S3 s' := by
    intro s g
    obtain ⟨k1, s1, e1, n1, g1⟩ := news (n := book.length) g nd (by omega) (by omega)
    obtain ⟨k2, s2, e2, n2, g2⟩ := news (n := book.length) g1 nd (by omega) (by omega)
    obtain ⟨sh, s3, e3, pm, g3⟩ := shuffled (ps := shut) g2 (by omega)
    obtain ⟨m1, m2, m3⟩ := news_set n2 p0 p1 (r := sh) ⟨pm.symm.nodup nd, fun a ha => pm.subset ha⟩
    obtain ⟨x1, t1, u1⟩ := trav1 hb n1 nd hs hp
    obtain ⟨x2, t2, u2⟩ := trav1 hb n2 nd hs hp
    rw [hc] at u1 u2
    have hin : ∀ {k : List (List Int)}, NewsOk book.length shut k → fo c (k.getD p.toNat [] ++ [p]) ∈ arr (fun x => !decide (x ∈ shut)) c := fun {k} nk => by
      refine fo_arr fun a ha hm => ?_
      have hk : k.getD p.toNat [] ∈ k := by
        have := nk.1
        rw [List.getD_eq_getElem?_getD, List.getElem?_eq_getElem (by omega)]
        exact List.getElem_mem _
      rcases List.mem_append.mp hm with z | z
      · rw [decide_eq_true ((nk.2 _ hk).2 a z)]; rfl
      · rw [List.mem_singleton] at z
        exact absurd z (r2.2 a ha).2.2
    have hlast : okO (m_travel (book, shut, k2.set p.toNat sh, p)) = some [p, fo c shut] := by
      rw [travel hb m2 nd hs p0 p1]
      have ef : fo c (sh ++ [p]) = fo c shut := fo_congr fun a ha => by
        rw [List.mem_append, pm.mem_iff, List.mem_singleton]
        have := (r2.2 a ha).2.2
        constructor
        · rintro (z | z)
          · exact z
          · exact absurd z this
        · exact .inl
      have hx : nxt book (k2.set p.toNat sh) [p] = fo c shut := by rw [nxt_one, m3, hc, ef]
      have hno : fo c shut ∉ shut := by
        rcases fo_cases c shut with ⟨z, _⟩ | ⟨_, z⟩
        · rw [z]
          intro w
          have := hs _ w
          omega
        · exact z
      have : go book (k2.set p.toNat sh) shut (book.length + 1) [p] = [p, fo c shut] := by
        unfold go
        rw [if_pos (show la [p] ∈ shut from hp), hx]
        cases book.length with
        | zero => rfl
        | succ k =>
          unfold go
          rw [if_neg (show ¬ la ([p] ++ [fo c shut]) ∈ shut by rw [la_app]; exact hno)]
          rfl
      rw [this]
      rfl
    refine ⟨s3, ?_, g3⟩
    dsimp only [finK]
    rw [e1, Option.bind_some]
    dsimp only
    rw [way_right hb n1 nd hs p0 p1, Option.bind_some, Bool.not_true, cond_false, copy_ (by omega), Option.bind_some, t1, Option.bind_some, u1, Option.bind_some, Option.bind_some, decide_eq_true (hin n1), Bool.not_true, cond_false, e2, Option.bind_some]
    dsimp only
    rw [way_right hb n2 nd hs p0 p1, Option.bind_some, Bool.not_true, cond_false, Option.bind_some, t2, Option.bind_some, u2, Option.bind_some, Option.bind_some, decide_eq_true (hin n2), Bool.not_true, cond_false, e3, Option.bind_some]
    dsimp only
    rw [m1, Option.bind_some, Option.bind_some, hlast, Option.bind_some, open_, Option.bind_some, same_row _ (by simp), Option.bind_some]
  obtain ⟨s', e', g'⟩ := tail s1 g1
  exact ⟨s', (congrArg (finK _ _) e1).trans e', g'⟩
end
end M

/-! N6 -/
set_option Elab.async false
set_option linter.all false
set_option maxRecDepth 100000
set_option maxHeartbeats 1000000
/-! nodes in their order, and the cards of them -/
namespace M
open PySem Dl G
open L2 (atI ixN)
theorem le_first {xs ys : List PyData} {m n : Int} (h : (!PySem.W.dataLt (.tuple (.int n :: ys)) (.tuple (.int m :: xs))) = true) : m ≤ n := by
  rw [PySem.W.dataLt_tuple, PySem.W.dataLt_cons (show PySem.W.alike (.int n) (.int m) = true from rfl)] at h
  by_cases hlt : n < m
  · exfalso
    have e : PyData.eqv (.int n) (.int m) = false := by
      show (n == m) = false
      simpa using (show ¬ n = m by omega)
    rw [e, PySem.W.dataLt_int, decide_eq_true hlt] at h
    simp at h
  · omega
theorem sort3_perm (xs : List (Int × List Int × Int)) : (sortD (dqT3 dqInt (dqTpl dqInt) dqInt) xs).Perm xs := List.mergeSort_perm _ _
theorem sort3_up (xs : List (Int × List Int × Int)) : (sortD (dqT3 dqInt (dqTpl dqInt) dqInt) xs).Pairwise fun a b => a.1 ≤ b.1 :=
  (PySem.W.sort_pairwise (PySem.W.sortLe_total (PyProof.Rows.listOrd PyProof.Rows.itemOrd) false fun x => PySem.W.keyToks ((dqT3 dqInt (dqTpl dqInt) dqInt).d x)) xs).imp fun {a b} h => le_first h
theorem normal {nodes : List Nd} (hl : nodes.length ≤ 1000) : ∃ L, m__law_normal nodes = some L ∧ L.Perm nodes ∧ L.Pairwise fun a b => a.1.length ≤ b.1.length := by
  unfold m__law_normal
  dsimp only
  rw [lcO_all (fun nd : Nd => ((nd.1.length : Int), nd.1, nd.2)) (by omega) fun _ _ => rfl, Option.bind_some]
  dsimp only
  have pm := sort3_perm (nodes.map fun nd : Nd => ((nd.1.length : Int), nd.1, nd.2))
  have up := sort3_up (nodes.map fun nd : Nd => ((nd.1.length : Int), nd.1, nd.2))
  rw [lcO_all (fun r : Int × List Int × Int => (r.2.1, r.2.2)) (by rw [pm.length_eq, List.length_map]; omega) fun _ _ => rfl, Option.bind_some]
  refine ⟨_, rfl, ?_, ?_⟩
  · have := pm.map fun r : Int × List Int × Int => (r.2.1, r.2.2)
    rw [List.map_map] at this
    refine this.trans ?_
    have e : (fun r : Int × List Int × Int => (r.2.1, r.2.2)) ∘ (fun nd : Nd => ((nd.1.length : Int), nd.1, nd.2)) = id := rfl
    rw [e, List.map_id]
  · rw [List.pairwise_map]
    refine up.imp_of_mem fun {a b} ha hb hab => ?_
    have k : ∀ x ∈ sortD (dqT3 dqInt (dqTpl dqInt) dqInt) (nodes.map fun nd : Nd => ((nd.1.length : Int), nd.1, nd.2)), x.1 = (x.2.1.length : Int) := fun x hx => by
      obtain ⟨nd, _, rfl⟩ := List.mem_map.mp (pm.subset hx)
      rfl
    rw [k a ha, k b hb] at hab
    show a.2.1.length ≤ b.2.1.length
    omega
/-- the gate of the last node that fits -/
def Sat (W : List Int) (X : Nd) : Prop := la W ∈ X.1 ∧ Sub X.1 W
theorem gate_loop {L : List Nd} {W : List Int} (hW : W ≠ []) (hl : ∀ X ∈ L, X.1.length ≤ 1000) : ∃ g, forL (fun (node14 : (List Int) × Int) (gate12 : Int) => ((atI W (-(1 : Int))).bind fun t15 =>
    (cond (decide (t15 ∈ node14.1)) ((lcO (fun (other : Int) (rr : Unit) => match rr with | () => some (true, ())) (fun (other : Int) (rr : Unit) => match rr with | () => some ((decide (other ∈ W)), ())) node14.1 ()).bind fun (ys17, _) => some (ys17.all id)) (some false)).bind fun b19 =>
    (cond b19 (some node14.2) (some gate12)).bind fun gate22 =>
    some (.nx gate22) : Option (Ctl Int Unit))) L (-(1 : Int)) = some (.nx g) ∧
    ((g = -1 ∧ ∀ X ∈ L, ¬ Sat W X) ∨ ∃ (k : Nat) (N : Nd), L[k]? = some N ∧ Sat W N ∧ g = N.2 ∧ ∀ (j : Nat) (X : Nd), L[j]? = some X → Sat W X → j ≤ k) := by
  obtain ⟨g, e, h⟩ := for_inv (τ := Unit) (ρ := Int) (xs := L) (r := (-1 : Int)) (f := fun (node14 : (List Int) × Int) (gate12 : Int) => ((atI W (-(1 : Int))).bind fun t15 =>
    (cond (decide (t15 ∈ node14.1)) ((lcO (fun (other : Int) (rr : Unit) => match rr with | () => some (true, ())) (fun (other : Int) (rr : Unit) => match rr with | () => some ((decide (other ∈ W)), ())) node14.1 ()).bind fun (ys17, _) => some (ys17.all id)) (some false)).bind fun b19 =>
    (cond b19 (some node14.2) (some gate12)).bind fun gate22 =>
    some (.nx gate22) : Option (Ctl Int Unit)))
    (fun i g => (g = -1 ∧ ∀ (j : Nat) (X : Nd), j < i → L[j]? = some X → ¬ Sat W X) ∨ ∃ (k : Nat) (N : Nd), k < i ∧ L[k]? = some N ∧ Sat W N ∧ g = N.2 ∧ ∀ (j : Nat) (X : Nd), j < i → L[j]? = some X → Sat W X → j ≤ k)
    (.inl ⟨rfl, fun j X hj => absurd hj (Nat.not_lt_zero _)⟩) (by
    intro i X g hX ih
    have hm := hl X (List.mem_of_getElem? hX)
    have e1 : (cond (decide (la W ∈ X.1)) ((lcO (fun (other : Int) (rr : Unit) => match rr with | () => some (true, ())) (fun (other : Int) (rr : Unit) => match rr with | () => some ((decide (other ∈ W)), ())) X.1 ()).bind fun (ys17, _) => some (ys17.all id)) (some false)) = some (decide (la W ∈ X.1) && X.1.all fun a => decide (a ∈ W)) := by
      by_cases h1 : la W ∈ X.1
      · rw [decide_eq_true h1, cond_true, lcO_all (fun a => decide (a ∈ W)) (by omega) fun _ _ => rfl, Option.bind_some]
        dsimp only
        rw [List.all_map, Bool.true_and]
        rfl
      · rw [decide_eq_false h1]
        rfl
    have e2 : (decide (la W ∈ X.1) && X.1.all fun a => decide (a ∈ W)) = true ↔ Sat W X := by
      rw [Bool.and_eq_true, decide_eq_true_eq, List.all_eq_true]
      unfold Sat Sub
      constructor
      · rintro ⟨a, b⟩
        exact ⟨a, fun x hx => of_decide_eq_true (b x hx)⟩
      · rintro ⟨a, b⟩
        exact ⟨a, fun x hx => decide_eq_true (b x hx)⟩
    rw [la_at hW, Option.bind_some, e1, Option.bind_some]
    by_cases hs : Sat W X
    · rw [e2.mpr hs, cond_true, Option.bind_some]
      refine ⟨_, rfl, .inr ⟨i, X, Nat.lt_succ_self _, hX, hs, rfl, fun j Y hj _ _ => Nat.lt_succ_iff.mp hj⟩⟩
    · rw [show (decide (la W ∈ X.1) && X.1.all fun a => decide (a ∈ W)) = false by
        cases hb : (decide (la W ∈ X.1) && X.1.all fun a => decide (a ∈ W)) with
        | false => rfl
        | true => exact absurd (e2.mp hb) hs, cond_false, Option.bind_some]
      refine ⟨_, rfl, ?_⟩
      rcases ih with ⟨h1, h2⟩ | ⟨k, N, h1, h2, h3, h4, h5⟩
      · refine .inl ⟨h1, fun j Y hj hY => ?_⟩
        rcases Nat.lt_succ_iff_lt_or_eq.mp hj with z | rfl
        · exact h2 j Y z hY
        · rw [hX] at hY; cases hY; exact hs
      · refine .inr ⟨k, N, by omega, h2, h3, h4, fun j Y hj hY sY => ?_⟩
        rcases Nat.lt_succ_iff_lt_or_eq.mp hj with z | rfl
        · exact h5 j Y z hY sY
        · rw [hX] at hY; cases hY; exact absurd sY hs)
  refine ⟨g, e, ?_⟩
  rcases h with ⟨h1, h2⟩ | ⟨k, N, h1, h2, h3, h4, h5⟩
  · refine .inl ⟨h1, fun X hX => ?_⟩
    obtain ⟨j, hj, rfl⟩ := List.mem_iff_getElem.mp hX
    exact h2 j _ hj (List.getElem?_eq_getElem hj)
  · exact .inr ⟨k, N, h2, h3, h4, fun j X hX sX => h5 j X (List.getElem?_eq_some_iff.mp hX).1 hX sX⟩
/-- a walk among nodes, so far -/
structure Wk (n : Int) (L : List Nd) (p : Int) (W : List Int) : Prop where
  hd : ∃ T, W = p :: T
  nd : W.Nodup
  rg : ∀ a ∈ W, 0 ≤ a ∧ a < n
  kv : Kv L W (la W)
theorem la_mem {W : List Int} (h : W ≠ []) : la W ∈ W := by
  have := wy_split h
  rw [this]
  rw [la_app]
  exact List.mem_append_right _ List.mem_cons_self
theorem card_ {n : Nat} {L : List Nd} (hn : n ≤ 16) (h : Fam n L) (up : L.Pairwise fun a b => a.1.length ≤ b.1.length) (hL : L.length ≤ 1000) (hX : ∀ X ∈ L, X.1.length ≤ 1000) {p : Int} (p0 : 0 ≤ p) (p1 : p < n) : ∃ c, m__law_card (L, p) = some c ∧ CardOk n p c := by
  unfold m__law_card
  dsimp only
  rw [rng (by omega) (by omega), Option.bind_some]
  obtain ⟨W, e, w⟩ := for_bk (τ := Unit) (ρ := List Int) (xs := rangeI 0 (L.length : Int)) (r := [p]) (f := fun (turn8 : Int) (named6 : (List Int)) => (finK (fun (gate12 : Int) => (cond (decide (gate12 < (0 : Int))) (some (.bk named6)) ((appO named6 gate12).bind fun named32 =>
    some (.nx named32)))) (fun (_ : Unit) => none) (forL (fun (node14 : (List Int) × Int) (gate12 : Int) => ((atI named6 (-(1 : Int))).bind fun t15 =>
    (cond (decide (t15 ∈ node14.1)) ((lcO (fun (other : Int) (rr : Unit) => match rr with | () => some (true, ())) (fun (other : Int) (rr : Unit) => match rr with | () => some ((decide (other ∈ named6)), ())) node14.1 ()).bind fun (ys17, _) => some (ys17.all id)) (some false)).bind fun b19 =>
    (cond b19 (some node14.2) (some gate12)).bind fun gate22 =>
    some (.nx gate22) : Option (Ctl Int Unit))) L (-(1 : Int))) : Option (Ctl (List Int) Unit))) (Wk n L p) ⟨⟨[], rfl⟩, by simp, fun a ha => by rw [List.mem_singleton] at ha; rw [ha]; exact ⟨p0, p1⟩, kv_one⟩ (by
    intro t W _ w
    have hW : W ≠ [] := by obtain ⟨T, rfl⟩ := w.hd; simp
    have wl : W.length ≤ (rangeI 0 (n : Int)).length := nodup_len w.nd fun a ha => mem_rng.mpr (w.rg a ha)
    rw [rng_len] at wl
    obtain ⟨g, e, hg⟩ := gate_loop (L := L) hW hX
    have hres : ∀ z, (cond (decide (g < (0 : Int))) (some (.bk W)) ((appO W g).bind fun named32 => some (.nx named32)) : Option (Ctl (List Int) Unit)) = z → finK (fun (gate12 : Int) => (cond (decide (gate12 < (0 : Int))) (some (.bk W)) ((appO W gate12).bind fun named32 =>
      some (.nx named32)) : Option (Ctl (List Int) Unit))) (fun (_ : Unit) => none) (forL (fun (node14 : (List Int) × Int) (gate12 : Int) => ((atI W (-(1 : Int))).bind fun t15 =>
      (cond (decide (t15 ∈ node14.1)) ((lcO (fun (other : Int) (rr : Unit) => match rr with | () => some (true, ())) (fun (other : Int) (rr : Unit) => match rr with | () => some ((decide (other ∈ W)), ())) node14.1 ()).bind fun (ys17, _) => some (ys17.all id)) (some false)).bind fun b19 =>
      (cond b19 (some node14.2) (some gate12)).bind fun gate22 =>
      some (.nx gate22) : Option (Ctl Int Unit))) L (-(1 : Int))) = z := fun z hz => (congrArg (finK _ _) e).trans hz
    by_cases gn : g < 0
    · exact ⟨W, w, .inr (hres _ (by rw [decide_eq_true gn]; rfl))⟩
    · rcases hg with ⟨h1, _⟩ | ⟨k, N, h1, h2, h3, h4⟩
      · omega
      · have hN := List.mem_of_getElem? h1
        have mx : ∀ X ∈ L, la W ∈ X.1 → Sub X.1 W → Sub X.1 N.1 := fun X hXL px cX => by
          obtain ⟨j, hj, he⟩ := List.mem_iff_getElem.mp hXL
          have hjk := h4 j X (by rw [List.getElem?_eq_getElem hj, he]) ⟨px, cX⟩
          have hlen : X.1.length ≤ N.1.length := by
            obtain ⟨hk, hke⟩ := List.getElem?_eq_some_iff.mp h1
            rcases Nat.lt_or_eq_of_le hjk with z | rfl
            · have := List.pairwise_iff_getElem.mp up j k hj hk z
              rw [he, hke] at this
              exact this
            · rw [hke] at he; rw [he]; exact Nat.le_refl _
          rcases h.l.lam X hXL N hN (la W) px h2.1 with z | z
          · exact z
          · exact sub_len z (h.l.nd N hN) hlen
        have nw := walk_new h w.rg (la_mem hW) w.kv hN h2.1 h2.2 mx
        have kv := walk_kv h.l w.kv hN h2.1 h2.2
        rw [← h3] at nw kv
        have gr : 0 ≤ g ∧ g < n := by
          rcases (h.l.gt N hN).2 with z | z
          · rw [← h3] at z; omega
          · rw [← h3] at z; exact z
        refine ⟨W ++ [g], ⟨?_, ?_, fun a ha => ?_, by rw [la_app]; exact kv⟩, .inl (hres _ ?_)⟩
        · obtain ⟨T, rfl⟩ := w.hd
          exact ⟨T ++ [g], rfl⟩
        · rw [List.nodup_append]
          refine ⟨w.nd, by simp, fun a ha b hb e => nw ?_⟩
          rw [List.mem_singleton] at hb
          rw [← hb, ← e]
          exact ha
        · rcases List.mem_append.mp ha with ha | ha
          · exact w.rg a ha
          · rw [List.mem_singleton] at ha
            rw [ha]; exact gr
        · rw [decide_eq_false gn, cond_false]
          unfold appO
          rw [if_pos (by omega)]
          rfl)
  refine ⟨_, (congrArg (finK _ _) e).trans rfl, ?_⟩
  obtain ⟨T, rfl⟩ := w.hd
  have ec : cut (p :: T) (some (1 : Int)) none = T := by
    have := cut_from (xs := p :: T) (i := 1) (by simp)
    exact this
  rw [ec]
  have nd := List.nodup_cons.mp w.nd
  exact ⟨nd.2, fun a ha => ⟨(w.rg a (List.mem_cons_of_mem _ ha)).1, (w.rg a (List.mem_cons_of_mem _ ha)).2, fun z => nd.1 (by rw [← z]; exact ha)⟩⟩
theorem cards_ {n : Nat} {L : List Nd} (h0 : 1 ≤ n) (hn : n ≤ 16) (h : Fam n L) (up : L.Pairwise fun a b => a.1.length ≤ b.1.length) (hL : L.length ≤ 1000) (hX : ∀ X ∈ L, X.1.length ≤ 1000) : ∃ b, m__law_cards (L, (n : Int)) = some b ∧ BookOk b ∧ b.length = n := by
  have hc : ∀ p : Int, ∃ c, (0 ≤ p → p < n → m__law_card (L, p) = some c ∧ CardOk n p c) := fun p => by
    by_cases hp : 0 ≤ p ∧ p < n
    · obtain ⟨c, e, k⟩ := card_ hn h up hL hX hp.1 hp.2
      exact ⟨c, fun _ _ => ⟨e, k⟩⟩
    · exact ⟨[], fun a b => absurd ⟨a, b⟩ hp⟩
  obtain ⟨f, hf⟩ := Classical.axiomOfChoice hc
  unfold m__law_cards
  dsimp only
  rw [rng (by omega) (by omega), Option.bind_some, lcO_all f (by rw [rng_len]; omega) fun p hp => ?_, Option.bind_some]
  · have hlen : ((rangeI 0 (n : Int)).map f).length = n := by rw [List.length_map, rng_len]; omega
    refine ⟨(rangeI 0 (n : Int)).map f, rfl, ⟨by omega, by omega, fun p hp => ?_⟩, hlen⟩
    rw [hlen] at hp
    have hlt : p < (rangeI 0 (n : Int)).length := by rw [rng_len]; omega
    have e1 : (rangeI 0 (n : Int))[p] = (p : Int) := (rng_get (List.getElem?_eq_getElem hlt)).1
    rw [hlen, List.getD_eq_getElem?_getD, List.getElem?_map, List.getElem?_eq_getElem hlt, e1]
    exact (hf (p : Int) (by omega) (by omega)).2
  · rw [mem_rng] at hp
    rw [(hf p hp.1 hp.2).1]
    rfl
end M

/-! N7 -/
set_option Elab.async false
set_option linter.all false
set_option maxRecDepth 100000
set_option maxHeartbeats 1000000
/-! rings parted from above -/
namespace M
open PySem Dl G
open L2 (atI ixN)
/-- pieces of a row, cut at marks -/
def pieces (row : List Int) : Nat → List Int → List (List Int)
  | _, [] => []
  | lo, m :: ms => (row.drop lo).take (m.toNat - lo) :: pieces row m.toNat ms
theorem pieces_len (row : List Int) : ∀ (ms : List Int) (lo : Nat), (pieces row lo ms).length = ms.length
  | [], _ => rfl
  | m :: ms, lo => by
    show (pieces row m.toNat ms).length + 1 = _
    rw [pieces_len row ms, List.length_cons]
theorem pieces_flat (row : List Int) : ∀ (ms : List Int) (lo : Nat), (∀ m ∈ ms, (lo : Int) < m ∧ m ≤ row.length) → ms.Pairwise (· < ·) → (ms ≠ [] → ms.getLast? = some (row.length : Int)) → ms ≠ [] →
    (pieces row lo ms).flatten = row.drop lo ∧ ∀ p ∈ pieces row lo ms, p ≠ []
  | [], _, _, _, _, h => absurd rfl h
  | [m], lo, hm, _, hl, _ => by
    have h1 := hm m List.mem_cons_self
    have h2 : m = row.length := by
      have := hl (by simp)
      simpa using this
    have e : (row.drop lo).take (m.toNat - lo) = row.drop lo := by
      rw [List.take_of_length_le]
      rw [List.length_drop]
      omega
    show ([(row.drop lo).take (m.toNat - lo)]).flatten = _ ∧ ∀ p ∈ [(row.drop lo).take (m.toNat - lo)], p ≠ []
    rw [e]
    refine ⟨by simp, fun p hp => ?_⟩
    rw [List.mem_singleton] at hp
    rw [hp]
    intro z
    have := congrArg List.length z
    rw [List.length_drop, List.length_nil] at this
    omega
  | m :: m2 :: ms, lo, hm, hp, hl, _ => by
    have h1 := hm m List.mem_cons_self
    have hp2 := List.pairwise_cons.mp hp
    obtain ⟨i1, i2⟩ := pieces_flat row (m2 :: ms) m.toNat (fun x hx => ⟨by have := hp2.1 x hx; omega, (hm x (List.mem_cons_of_mem _ hx)).2⟩) hp2.2 (fun _ => by
      have := hl (by simp)
      rw [List.getLast?_cons_cons] at this
      exact this) (by simp)
    constructor
    · show ((row.drop lo).take (m.toNat - lo)) ++ (pieces row m.toNat (m2 :: ms)).flatten = _
      rw [i1]
      have : row.drop m.toNat = (row.drop lo).drop (m.toNat - lo) := by rw [List.drop_drop]; congr 1; omega
      rw [this, List.take_append_drop]
    · intro p hpm
      rcases List.mem_cons.mp hpm with rfl | hpm
      · intro z
        have := congrArg List.length z
        rw [List.length_take, List.length_drop, List.length_nil] at this
        omega
      · exact i2 p hpm
/-- a parting of places -/
structure Ptn (places : List Int) (k : Nat) (ps : List (List Int)) : Prop where
  len : ps.length = k
  ne : ∀ p ∈ ps, p ≠ []
  pm : ps.flatten.Perm places
theorem cut_mid {xs : List Int} {i j : Nat} (hi : i ≤ j) (hj : j ≤ xs.length) : cut xs (some (i : Int)) (some (j : Int)) = (xs.drop i).take (j - i) := by
  unfold cut
  rw [HT.sIx_nat, HT.sIx_nat, Nat.min_eq_left hj, Nat.min_eq_left (Nat.le_trans hi hj)]
theorem getLast_app {xs : List Int} {x : Int} : (xs ++ [x]).getLast? = some x := by simp
theorem parts_ {s places : List Int} {k : Int} (hs : S3 s) (hl : places.length ≤ 100) (k1 : 1 ≤ k) (k2 : k ≤ places.length) : ∃ ps s', m__law_parts (s, places, k) = some (ps, s') ∧ Ptn places k.toNat ps ∧ S3 s' := by
  obtain ⟨row, s1, e1, pm1, g1⟩ := shuffled (ps := places) hs (by omega)
  have rl : row.length = places.length := pm1.length_eq
  have hr : rangeI 1 (row.length : Int) = (List.range (row.length - 1)).map fun (i : Nat) => 1 + (i : Int) := by
    unfold rangeI
    congr 2
    omega
  have hrl : (rangeI 1 (row.length : Int)).length = row.length - 1 := by rw [hr, List.length_map, List.length_range]
  have hrm : ∀ x ∈ rangeI 1 (row.length : Int), 1 ≤ x ∧ x < row.length := fun x hx => by
    rw [hr, List.mem_map] at hx
    obtain ⟨i, hi, rfl⟩ := hx
    rw [List.mem_range] at hi
    omega
  have hrn : (rangeI 1 (row.length : Int)).Nodup := by
    rw [hr, List.nodup_iff_pairwise_ne, List.pairwise_map]
    exact (List.nodup_range (n := row.length - 1)).imp fun {a b} h z => h (by omega)
  obtain ⟨mk, s2, e2, pm2, g2⟩ := shuffled (ps := rangeI 1 (row.length : Int)) g1 (by omega)
  have ml : mk.length = row.length - 1 := by rw [pm2.length_eq, hrl]
  have ec : cut mk none (some (k - 1)) = mk.take (k.toNat - 1) := by
    rw [show k - 1 = ((k.toNat - 1 : Nat) : Int) by omega, cut_to (by omega)]
  generalize hms : isort (mk.take (k.toNat - 1)) = ms
  have msp : ms.Perm (mk.take (k.toNat - 1)) := by rw [← hms]; exact isort_perm _
  have msl : ms.length = k.toNat - 1 := by rw [msp.length_eq, List.length_take]; omega
  have msn : ms.Nodup := msp.symm.nodup ((pm2.symm.nodup hrn).sublist (List.take_sublist ..))
  have msr : ∀ x ∈ ms, 1 ≤ x ∧ x < row.length := fun x hx => hrm x (pm2.subset (List.take_subset _ _ (msp.subset hx)))
  have msu : ms.Pairwise (· < ·) := by
    have h1 : ms.Pairwise (· ≤ ·) := by rw [← hms]; exact isort_sorted _
    exact (h1.and (List.nodup_iff_pairwise_ne.mp msn)).imp fun {a b} h => by omega
  have pf := pieces_flat row (ms ++ [(row.length : Int)]) 0 (fun m hm => by
    rcases List.mem_append.mp hm with hm | hm
    · have := msr m hm; omega
    · rw [List.mem_singleton] at hm; omega) (List.pairwise_append.mpr ⟨msu, List.pairwise_singleton _ _, fun a ha b hb => by
      rw [List.mem_singleton] at hb
      have := msr a ha
      omega⟩) (fun _ => getLast_app) (by simp)
  unfold m__law_parts
  dsimp only
  rw [e1, Option.bind_some]
  dsimp only
  have er : rngO (1 : Int) (row.length : Int) = some (rangeI 1 (row.length : Int)) := by
    unfold rngO
    rw [if_pos (by omega)]
  rw [er, Option.bind_some, e2, Option.bind_some]
  dsimp only
  rw [ec, hms, cat1 (by simp; omega), Option.bind_some]
  have hf : ∀ (ms : List Int) (lo : Nat) (acc : List (List Int)), (∀ m ∈ ms, (lo : Int) ≤ m ∧ m ≤ row.length) → ms.Pairwise (· < ·) → acc.length + ms.length ≤ 1000 → ∃ lo', forL (fun (mark27 : Int) (rr : (List (List Int)) × Int) => (match rr with | (parts24, low25) => ((appO parts24 (cut row (some low25) (some mark27))).bind fun parts28 =>
      some (.nx (parts28, mark27))) : Option (Ctl ((List (List Int)) × Int) Unit))) ms (acc, (lo : Int)) = some (.nx (acc ++ pieces row lo ms, lo')) := by
    intro ms
    induction ms with
    | nil => exact fun lo acc _ _ _ => ⟨_, by rw [show pieces row lo [] = [] from rfl, List.append_nil]; rfl⟩
    | cons m ms ih =>
      intro lo acc hm hp hl
      have h1 := hm m List.mem_cons_self
      have hp2 := List.pairwise_cons.mp hp
      rw [List.length_cons] at hl
      obtain ⟨lo', e⟩ := ih m.toNat (acc ++ [(row.drop lo).take (m.toNat - lo)]) (fun x hx => ⟨by have := hp2.1 x hx; omega, (hm x (List.mem_cons_of_mem _ hx)).2⟩) hp2.2 (by simp; omega)
      refine ⟨lo', ?_⟩
      have em : m = ((m.toNat : Nat) : Int) := by omega
      unfold forL
      dsimp only
      rw [show cut row (some (lo : Int)) (some m) = (row.drop lo).take (m.toNat - lo) by rw [em, cut_mid (by omega) (by omega), Int.toNat_natCast]]
      have ea : appO acc ((row.drop lo).take (m.toNat - lo)) = some (acc ++ [(row.drop lo).take (m.toNat - lo)]) := by
        unfold appO
        rw [if_pos (by omega)]
      rw [ea, Option.bind_some]
      rw [List.append_assoc] at e
      rw [← em] at e
      exact e
  obtain ⟨lo', e3⟩ := hf (ms ++ [(row.length : Int)]) 0 [] (fun m hm => by
    rcases List.mem_append.mp hm with hm | hm
    · have := msr m hm; omega
    · rw [List.mem_singleton] at hm; omega) (List.pairwise_append.mpr ⟨msu, List.pairwise_singleton _ _, fun a ha b hb => by
      rw [List.mem_singleton] at hb
      have := msr a ha
      omega⟩) (by simp; omega)
  rw [List.nil_append] at e3
  refine ⟨pieces row 0 (ms ++ [(row.length : Int)]), s2, (congrArg (finK _ _) e3).trans rfl, ⟨?_, pf.2, ?_⟩, g2⟩
  · rw [pieces_len, List.length_append, List.length_singleton]; omega
  · rw [pf.1, List.drop_zero]
    exact pm1
theorem flat_dis : ∀ {ps : List (List Int)}, ps.flatten.Nodup → (ps.Pairwise fun p q => ∀ a ∈ p, a ∉ q) ∧ ∀ p ∈ ps, p.Nodup
  | [], _ => ⟨.nil, fun p h => nomatch h⟩
  | p :: ps, h => by
    rw [List.flatten_cons, List.nodup_append] at h
    obtain ⟨i1, i2⟩ := flat_dis h.2.1
    refine ⟨List.pairwise_cons.mpr ⟨fun q hq a ha hb => h.2.2 a ha a (List.mem_flatten.mpr ⟨q, hq, hb⟩) rfl, i1⟩, fun q hq => ?_⟩
    rcases List.mem_cons.mp hq with rfl | hq
    · exact h.1
    · exact i2 q hq
theorem ptn_dis {places : List Int} {k : Nat} {ps : List (List Int)} (h : Ptn places k ps) (nd : places.Nodup) : (ps.Pairwise fun p q => ∀ a ∈ p, a ∉ q) ∧ (∀ p ∈ ps, p.Nodup) ∧ ∀ a, a ∈ places ↔ ∃ p ∈ ps, a ∈ p := by
  obtain ⟨n1, n2⟩ := flat_dis (h.pm.symm.nodup nd)
  exact ⟨n1, n2, fun a => by rw [← h.pm.mem_iff, List.mem_flatten]⟩
end M

/-! N8 -/
set_option Elab.async false
set_option linter.all false
set_option maxRecDepth 100000
set_option maxHeartbeats 1000000
/-! nests grown from above -/
namespace M
open PySem Dl G
open L2 (atI ixN)
theorem for_ib' {α ρ τ : Type} {f : α → ρ → Option (Ctl ρ τ)} (I : Nat → ρ → Prop) (Q : ρ → Prop) : ∀ {xs : List α} (k : Nat) {r : ρ}, I k r → (∀ i x r, xs[i]? = some x → I (k + i) r → ∃ r', (f x r = some (.nx r') ∧ I (k + i + 1) r') ∨ (f x r = some (.bk r') ∧ Q r')) → ∃ r', forL f xs r = some (.nx r') ∧ (Q r' ∨ I (k + xs.length) r')
  | [], k, r, h, _ => ⟨r, rfl, .inr h⟩
  | x :: xs, k, r, h, st => by
    obtain ⟨r1, ⟨e, h1⟩ | ⟨e, h1⟩⟩ := st 0 x r rfl h
    · obtain ⟨r2, e2, h2⟩ := for_ib' I Q (xs := xs) (k + 1) h1 fun i y r hy hr => by
        have := st (i + 1) y r (by simpa using hy) (by rw [show k + (i + 1) = k + 1 + i by omega]; exact hr)
        rw [show k + (i + 1) + 1 = k + 1 + i + 1 by omega] at this
        exact this
      refine ⟨r2, ?_, ?_⟩
      · unfold forL
        rw [e]
        exact e2
      · rw [List.length_cons, show k + (xs.length + 1) = k + 1 + xs.length by omega]
        exact h2
    · refine ⟨r1, ?_, .inl h1⟩
      unfold forL
      rw [e]
theorem for_ib {α ρ τ : Type} {f : α → ρ → Option (Ctl ρ τ)} {xs : List α} (I : Nat → ρ → Prop) (Q : ρ → Prop) {r : ρ} (h : I 0 r) (st : ∀ i x r, xs[i]? = some x → I i r → ∃ r', (f x r = some (.nx r') ∧ I (i + 1) r') ∨ (f x r = some (.bk r') ∧ Q r')) : ∃ r', forL f xs r = some (.nx r') ∧ (Q r' ∨ I xs.length r') := by
  obtain ⟨r', e, h'⟩ := for_ib' I Q 0 h fun i x r hx hi => by
    rw [Nat.zero_add] at hi ⊢
    exact st i x r hx hi
  rw [Nat.zero_add] at h'
  exact ⟨r', e, h'⟩
theorem fmod_nat {a b : Nat} : (a : Int).fmod (b : Int) = ((a % b : Nat) : Int) := by
  rw [Int.fmod_eq_emod_of_nonneg _ (by omega)]
  rfl
/-- lists beside their gates -/
def Fst (C : List Nd) (ps : List (List Int)) : Prop := C.map (fun c => c.1) = ps
theorem fst_at {C : List Nd} {ps : List (List Int)} (h : Fst C ps) {i : Nat} {c : Nd} (hi : C[i]? = some c) : ps[i]? = some c.1 := by
  rw [← h, List.getElem?_map, hi]
  rfl
theorem fst_len {C : List Nd} {ps : List (List Int)} (h : Fst C ps) : C.length = ps.length := by
  rw [← h, List.length_map]
theorem fst_dis {C : List Nd} {ps : List (List Int)} (h : Fst C ps) (d : ps.Pairwise fun p q => ∀ a ∈ p, a ∉ q) : Dis C := by
  rw [← h, List.pairwise_map] at d
  exact d
theorem fst_mem {C : List Nd} {ps : List (List Int)} (h : Fst C ps) {c : Nd} (hc : c ∈ C) : c.1 ∈ ps := by
  rw [← h]
  exact List.mem_map.mpr ⟨c, hc, rfl⟩
theorem app_ {α : Type} {xs : List α} {x : α} (h : xs.length < 1000000) : appO xs x = some (xs ++ [x]) := by
  unfold appO
  rw [if_pos h]
/-- the parts of a ring, each with a gate in the next one -/
theorem ring_loop {s : List Int} {ps : List (List Int)} {k : Nat} {td : List Nd} (hs : S3 s) (hk : 2 ≤ k) (hl : ps.length = k) (hk2 : k ≤ 100) (hp : ∀ p ∈ ps, p ≠ [] ∧ p.length ≤ 100) (ht : td.length ≤ 1000) :
    ∃ s' C, forL (fun (x_k112 : Int) (rr : (List Int) × (List ((List Int) × Int))) => (match rr with | (state109, todo110) => ((modO (x_k112 + (1 : Int)) (k : Int)).bind fun t113 =>
      (atI ps t113).bind fun t115 =>
      (atI ps x_k112).bind fun t120 =>
      (m__law_pick (state109, (t115.length : Int))).bind fun (r122, state124) =>
      (atI t115 r122).bind fun t125 =>
      (appO todo110 (t120, t125)).bind fun todo127 =>
      some (.nx (state124, todo127))) : Option (Ctl ((List Int) × (List ((List Int) × Int))) Unit))) (rangeI 0 (k : Int)) (s, td) = some (.nx (s', td ++ C)) ∧ S3 s' ∧ Fst C ps ∧ Cyc C := by
  obtain ⟨⟨s', td'⟩, e, g, C, hC, h1, h2⟩ := for_inv (τ := Unit) (ρ := List Int × List Nd) (xs := rangeI 0 (k : Int)) (r := (s, td)) (f := fun (x_k112 : Int) (rr : (List Int) × (List ((List Int) × Int))) => (match rr with | (state109, todo110) => ((modO (x_k112 + (1 : Int)) (k : Int)).bind fun t113 =>
      (atI ps t113).bind fun t115 =>
      (atI ps x_k112).bind fun t120 =>
      (m__law_pick (state109, (t115.length : Int))).bind fun (r122, state124) =>
      (atI t115 r122).bind fun t125 =>
      (appO todo110 (t120, t125)).bind fun todo127 =>
      some (.nx (state124, todo127))) : Option (Ctl ((List Int) × (List ((List Int) × Int))) Unit)))
    (fun i r => S3 r.1 ∧ ∃ C : List Nd, r.2 = td ++ C ∧ Fst C (ps.take i) ∧ ∀ (j : Nat) (c : Nd), C[j]? = some c → c.2 ∈ ps.getD ((j + 1) % k) [])
    ⟨hs, [], by simp, rfl, fun j c h => by simp at h⟩ (by
    rintro i x ⟨s, td2⟩ hx ⟨g, C, hC, h1, h2⟩
    obtain ⟨rfl, hi⟩ := rng_get hx
    simp only at hC
    subst hC
    have hm : (i + 1) % k < k := Nat.mod_lt _ (by omega)
    have hin : ∀ j, j < k → ps.getD j [] ∈ ps := fun j hj => by
      rw [List.getD_eq_getElem?_getD, List.getElem?_eq_getElem (by omega)]
      exact List.getElem_mem _
    obtain ⟨q1, q2⟩ := hp _ (hin _ hm)
    have ql := List.length_pos_iff.mpr q1
    obtain ⟨d, s2, e2, d0, d1, g2⟩ := pick g (many := ((ps.getD ((i + 1) % k) []).length : Int)) (by omega) (by omega)
    obtain ⟨z, z1, z2⟩ := at_ (xs := ps.getD ((i + 1) % k) []) d0 d1
    have cl : C.length = i := by rw [fst_len h1, List.length_take]; omega
    refine ⟨(s2, td ++ (C ++ [(ps.getD i [], z)])), ?_, g2, C ++ [(ps.getD i [], z)], rfl, ?_, ?_⟩
    · dsimp only
      have em : modO ((i : Int) + 1) (k : Int) = some (((i + 1) % k : Nat) : Int) := by
        rw [mod_ (by omega), show ((i : Int) + 1) = ((i + 1 : Nat) : Int) by omega, fmod_nat]
      rw [em, Option.bind_some, at_n [] (by omega), Option.bind_some, at_n [] (by omega), Option.bind_some, e2, Option.bind_some]
      dsimp only
      rw [z1, Option.bind_some, app_ (by rw [List.length_append]; omega), Option.bind_some, List.append_assoc]
    · show (C ++ [(ps.getD i [], z)]).map (fun c => c.1) = ps.take (i + 1)
      rw [List.map_append, h1, List.take_add_one, List.getD_eq_getElem?_getD, List.getElem?_eq_getElem (by omega)]
      rfl
    · intro j c hj
      by_cases hlt : j < C.length
      · rw [List.getElem?_append_left hlt] at hj
        exact h2 j c hj
      · rw [List.getElem?_append_right (by omega)] at hj
        have hj2 : j - C.length = 0 := by
          have := (List.getElem?_eq_some_iff.mp hj).1
          simpa using this
        rw [hj2] at hj
        have hje : j = i := by omega
        cases hj
        rw [hje]
        exact List.mem_of_getElem? z2)
  simp only at hC
  subst hC
  rw [rng_len, Int.toNat_natCast, List.take_of_length_le (by omega)] at h1
  refine ⟨s', C, e, g, h1, fun i hi => ?_⟩
  have cl := fst_len h1
  obtain rfl : k = C.length := by omega
  have hm : (i + 1) % C.length < C.length := Nat.mod_lt _ (by omega)
  refine ⟨C[i], C[(i + 1) % C.length], List.getElem?_eq_getElem hi, List.getElem?_eq_getElem hm, ?_⟩
  have k1 := h2 i C[i] (List.getElem?_eq_getElem hi)
  have k2 := fst_at h1 (List.getElem?_eq_getElem hm)
  rw [List.getD_eq_getElem?_getD, k2] at k1
  exact k1
def sz (td : List Nd) : Nat := (td.map fun t => t.1.length).sum
theorem sz_app (a b : List Nd) : sz (a ++ b) = sz a + sz b := by
  unfold sz
  rw [List.map_append, List.sum_append]
theorem sz_ge : ∀ {td : List Nd}, (∀ t ∈ td, t.1 ≠ []) → td.length ≤ sz td
  | [], _ => Nat.le_refl _
  | t :: td, h => by
    have h1 := List.length_pos_iff.mpr (h t List.mem_cons_self)
    have := sz_ge (td := td) fun x hx => h x (List.mem_cons_of_mem _ hx)
    have e : sz (t :: td) = t.1.length + sz td := by
      unfold sz
      rw [List.map_cons, List.sum_cons]
    rw [e, List.length_cons]
    omega
theorem fst_sz {C : List Nd} {ps : List (List Int)} (h : Fst C ps) : sz C = ps.flatten.length := by
  unfold sz
  rw [← h, List.length_flatten, List.map_map]
  rfl
end M

/-! N9 -/
set_option Elab.async false
set_option linter.all false
set_option maxRecDepth 100000
set_option maxHeartbeats 1000000
namespace M
open PySem Dl G
open L2 (atI ixN)
/-- tops, each with a gate in one ahead of it, or none -/
def Gt (td : List Nd) : Prop := ∀ (j : Nat) (t : Nd), td[j]? = some t → t.2 = -1 ∨ ∃ (i : Nat) (u : Nd), i < j ∧ td[i]? = some u ∧ t.2 ∈ u.1
theorem gi_start {n : Nat} {td : List Nd} {ps : List (List Int)} {k : Nat} (h : Fst td ps) (pt : Ptn (rangeI 0 (n : Int)) k ps) (gt : Gt td) : Gi n [] td := by
  obtain ⟨d1, d2, d3⟩ := ptn_dis pt (rng_nodup n)
  have di := fst_dis h d1
  have ne : ∀ t ∈ td, t.1 ≠ [] := fun t ht => pt.ne _ (fst_mem h ht)
  have rg : ∀ t ∈ td, ∀ a ∈ t.1, 0 ≤ a ∧ a < (n : Int) := fun t ht a ha => mem_rng.mp ((d3 a).mpr ⟨_, fst_mem h ht, ha⟩)
  have same : ∀ X ∈ td, ∀ Y ∈ td, ∀ a, a ∈ X.1 → a ∈ Y.1 → X = Y := fun X hX Y hY a ha hb => by
    obtain ⟨i, hi, ei⟩ := List.mem_iff_getElem.mp hX
    obtain ⟨j, hj, ej⟩ := List.mem_iff_getElem.mp hY
    have := dis_eq di (i := i) (j := j) (by rw [List.getElem?_eq_getElem hi, ei]) (by rw [List.getElem?_eq_getElem hj, ej]) ha hb
    subst this
    rw [← ei, ← ej]
  have both : ∀ X ∈ td, ∀ Y ∈ td, Sub X.1 Y.1 → X = Y := fun X hX Y hY xy => by
    obtain ⟨a, ha⟩ := List.exists_mem_of_ne_nil _ (ne X hX)
    exact same X hX Y hY a ha (xy a ha)
  refine ⟨⟨fun X hX => d2 _ (fst_mem h hX), fun X hX => ?_, fun X hX Y hY a ha hb => ?_, fun X hX Y hY xy _ => ?_, fun X hX Y hY xy yx => ?_⟩, (fun R hR => absurd hR List.not_mem_nil), ?_, ne, rg, fun t ht X hX a ha hb => ?_, di⟩
  · obtain ⟨j, hj, ej⟩ := List.mem_iff_getElem.mp hX
    rcases gt j X (by rw [← ej]; exact List.getElem?_eq_getElem hj) with z | ⟨i, u, hi, hu, hm⟩
    · exact ⟨fun w => by have := rg X hX _ w; omega, .inl z⟩
    · have hu' := List.mem_of_getElem? hu
      refine ⟨fun w => ?_, .inr (rg u hu' _ hm)⟩
      have := dis_eq di (j := j) hu (by rw [← ej]; exact List.getElem?_eq_getElem hj) hm w
      omega
  · rw [same X hX Y hY a ha hb]; exact .inl (Sub.refl _)
  · rw [both X hX Y hY xy]
  · rw [both X hX Y hY xy] at yx
    exact absurd (Sub.refl _) yx
  · rintro U ⟨u, hu⟩ ur k
    have hex : ∃ t ∈ td, u ∈ t.1 := by
      obtain ⟨p, hp, hup⟩ := (d3 u).mp (mem_rng.mpr (ur u hu))
      rw [← h, List.mem_map] at hp
      obtain ⟨t, ht, rfl⟩ := hp
      exact ⟨t, ht, hup⟩
    obtain ⟨t, ht, hut⟩ := hex
    obtain ⟨j, hj, ej⟩ := List.mem_iff_getElem.mp ht
    have key : ∀ (m j : Nat), j ≤ m → ∀ t, td[j]? = some t → ¬ ∃ a ∈ t.1, U a := by
      intro m
      induction m with
      | zero =>
        intro j hj t ht hx
        have z := (k t (List.mem_append_right _ (List.mem_of_getElem? ht)) hx).2
        rcases gt j t ht with w | ⟨i, _, hi, _⟩
        · have := ur _ z; omega
        · omega
      | succ m ih =>
        intro j hj t ht hx
        have z := (k t (List.mem_append_right _ (List.mem_of_getElem? ht)) hx).2
        rcases gt j t ht with w | ⟨i, u, hi, hu, hm⟩
        · have := ur _ z; omega
        · exact ih i (by omega) u hu ⟨_, hm, z⟩
    exact key j j (Nat.le_refl _) t (by rw [← ej]; exact List.getElem?_eq_getElem hj) ⟨u, hut, hu⟩
  · rw [same X hX t ht a ha hb]; exact Sub.refl _
theorem tops_loop {s : List Int} {ps : List (List Int)} (hs : S3 s) (hl : ps.length ≤ 100) (hf : ps.flatten.length ≤ 100) :
    ∃ s' td seen, forL (fun (x_part19 : List Int) (rr : (List Int) × (List ((List Int) × Int)) × (List Int)) => (match rr with | (state15, todo16, seen17) => ((cond (decide ((0 : Int) < (seen17.length : Int))) ((m__law_pick (state15, (3 : Int))).bind fun (r23, state25) => some ((decide ((0 : Int) < r23)), state25)) (some (false, state15))).bind fun (b26, state28) =>
      (cond b26 ((m__law_pick (state28, (seen17.length : Int))).bind fun (r32, state34) =>
      (atI seen17 r32).bind fun t35 =>
      some (state34, t35)) (some (state28, (-(1 : Int))))).bind fun (state30, gate31) =>
      (appO todo16 (x_part19, gate31)).bind fun todo42 =>
      (catO seen17 x_part19).bind fun t47 =>
      some (.nx (state30, todo42, t47))) : Option (Ctl ((List Int) × (List ((List Int) × Int)) × (List Int)) Unit))) ps (s, [], []) = some (.nx (s', td, seen)) ∧ S3 s' ∧ Fst td ps ∧ Gt td := by
  obtain ⟨⟨s', td, seen⟩, e, g, h1, h2, h3⟩ := for_inv (τ := Unit) (ρ := List Int × List Nd × List Int) (xs := ps) (r := (s, [], [])) (f := fun (x_part19 : List Int) (rr : (List Int) × (List ((List Int) × Int)) × (List Int)) => (match rr with | (state15, todo16, seen17) => ((cond (decide ((0 : Int) < (seen17.length : Int))) ((m__law_pick (state15, (3 : Int))).bind fun (r23, state25) => some ((decide ((0 : Int) < r23)), state25)) (some (false, state15))).bind fun (b26, state28) =>
      (cond b26 ((m__law_pick (state28, (seen17.length : Int))).bind fun (r32, state34) =>
      (atI seen17 r32).bind fun t35 =>
      some (state34, t35)) (some (state28, (-(1 : Int))))).bind fun (state30, gate31) =>
      (appO todo16 (x_part19, gate31)).bind fun todo42 =>
      (catO seen17 x_part19).bind fun t47 =>
      some (.nx (state30, todo42, t47))) : Option (Ctl ((List Int) × (List ((List Int) × Int)) × (List Int)) Unit)))
    (fun i r => S3 r.1 ∧ Fst r.2.1 (ps.take i) ∧ r.2.2 = (ps.take i).flatten ∧ Gt r.2.1) ⟨hs, rfl, rfl, fun j t h => by simp at h⟩ (by
    rintro i p ⟨s, td, seen⟩ hp ⟨g, h1, h2, h3⟩
    simp only at h1 h2 h3
    subst h2
    have hi := (List.getElem?_eq_some_iff.mp hp).1
    have tl : td.length = i := by rw [fst_len h1, List.length_take]; omega
    have ht : (ps.take (i + 1)) = ps.take i ++ [p] := by rw [List.take_add_one, hp]; rfl
    have fl : (ps.take i).flatten.length + p.length ≤ ps.flatten.length := by
      have : ((ps.take (i + 1)) ++ ps.drop (i + 1)).flatten.length = ps.flatten.length := by rw [List.take_append_drop]
      rw [List.flatten_append, List.length_append, ht, List.flatten_append, List.length_append] at this
      simp at this
      simp
      omega
    have mid : ∃ s2 gate, ((cond (decide ((0 : Int) < ((ps.take i).flatten.length : Int))) ((m__law_pick (s, (3 : Int))).bind fun (r23, state25) => some ((decide ((0 : Int) < r23)), state25)) (some (false, s))).bind fun (b26, state28) =>
        (cond b26 ((m__law_pick (state28, ((ps.take i).flatten.length : Int))).bind fun (r32, state34) =>
        (atI (ps.take i).flatten r32).bind fun t35 =>
        some (state34, t35)) (some (state28, (-(1 : Int)))))) = some (s2, gate) ∧ S3 s2 ∧ (gate = -1 ∨ gate ∈ (ps.take i).flatten) := by
      by_cases hz : (0 : Int) < ((ps.take i).flatten.length : Int)
      · obtain ⟨d, s2, e2, _, _, g2⟩ := pick g (many := 3) (by decide) (by decide)
        rw [decide_eq_true hz, cond_true, e2, Option.bind_some]
        dsimp only
        rw [Option.bind_some]
        dsimp only
        by_cases hd : 0 < d
        · obtain ⟨d2, s3, e3, c0, c1, g3⟩ := pick g2 (many := ((ps.take i).flatten.length : Int)) hz (by omega)
          obtain ⟨z, z1, z2⟩ := at_ (xs := (ps.take i).flatten) c0 c1
          rw [decide_eq_true hd, cond_true, e3, Option.bind_some]
          dsimp only
          rw [z1, Option.bind_some]
          exact ⟨s3, z, rfl, g3, .inr (List.mem_of_getElem? z2)⟩
        · rw [decide_eq_false hd, cond_false]
          exact ⟨s2, -1, rfl, g2, .inl rfl⟩
      · rw [decide_eq_false hz, cond_false, Option.bind_some]
        dsimp only
        rw [cond_false]
        exact ⟨s, -1, rfl, g, .inl rfl⟩
    obtain ⟨s2, gate, e2, g2, hg⟩ := mid
    refine ⟨(s2, td ++ [(p, gate)], (ps.take i).flatten ++ p), ?_, g2, ?_, ?_, ?_⟩
    · dsimp only
      rw [← Option.bind_assoc] at *
      have e3 := e2
      rw [e3, Option.bind_some]
      dsimp only
      rw [app_ (by omega), Option.bind_some, cat1 (by omega), Option.bind_some]
    · show (td ++ [(p, gate)]).map (fun c => c.1) = _
      rw [List.map_append, h1, ht]
      rfl
    · show (ps.take i).flatten ++ p = (ps.take (i + 1)).flatten
      rw [ht, List.flatten_append]
      simp
    · intro j t hj
      by_cases hlt : j < td.length
      · rw [List.getElem?_append_left hlt] at hj
        rcases h3 j t hj with z | ⟨i', u, a, b, c⟩
        · exact .inl z
        · exact .inr ⟨i', u, a, by rw [List.getElem?_append_left (by omega)]; exact b, c⟩
      · rw [List.getElem?_append_right (by omega)] at hj
        have hj2 : j - td.length = 0 := by
          have := (List.getElem?_eq_some_iff.mp hj).1
          simpa using this
        rw [hj2] at hj
        cases hj
        rcases hg with z | z
        · exact .inl z
        · obtain ⟨q, hq, hm⟩ := List.mem_flatten.mp z
          rw [← h1, List.mem_map] at hq
          obtain ⟨u, hu, rfl⟩ := hq
          obtain ⟨i', hi', e'⟩ := List.mem_iff_getElem.mp hu
          exact .inr ⟨i', u, by omega, by rw [List.getElem?_append_left hi', List.getElem?_eq_getElem hi', e'], hm⟩)
  rw [List.take_of_length_le (Nat.le_refl _)] at h1
  exact ⟨s', td, seen, e, g, h1, h3⟩
end M

/-! N10 -/
set_option Elab.async false
set_option linter.all false
set_option maxRecDepth 100000
set_option maxHeartbeats 1000000
namespace M
open PySem Dl G
open L2 (atI ixN)
/-- one turn of growing -/
def growF : Int → (List Int) × (List Nd) × (List Nd) → Option (Ctl ((List Int) × (List Nd) × (List Nd)) Unit) := (fun (turn67 : Int) (rr : (List Int) × (List ((List Int) × Int)) × (List ((List Int) × Int))) => (match rr with | (state63, todo64, nodes65) => (cond (decide ((todo64.length : Int) = (0 : Int))) (some (.bk (state63, todo64, nodes65))) ((popO todo64).bind fun (r69, todo70) =>
  (appO nodes65 ((isort r69.1), r69.2)).bind fun nodes78 =>
  (cond (decide ((1 : Int) < (r69.1.length : Int))) ((m__law_pick (state63, (3 : Int))).bind fun (r87, state89) =>
  (cond (decide (r87 = (0 : Int))) ((m__law_pick (state89, ((r69.1.length : Int) - (1 : Int)))).bind fun (r93, state95) =>
  some (state95, ((2 : Int) + r93))) (some (state89, (2 : Int)))).bind fun (state91, count92) =>
  (m__law_parts (state91, r69.1, count92)).bind fun (r101, state103) =>
  (rngO (0 : Int) count92).bind fun xs107 =>
  finK (fun (rr : (List Int) × (List ((List Int) × Int))) => match rr with | (state109, todo110) => (some (state109, todo110))) (fun (_ : Unit) => none) (forL (fun (x_k112 : Int) (rr : (List Int) × (List ((List Int) × Int))) => (match rr with | (state109, todo110) => ((modO (x_k112 + (1 : Int)) count92).bind fun t113 =>
  (atI r101 t113).bind fun t115 =>
  (atI r101 x_k112).bind fun t120 =>
  (m__law_pick (state109, (t115.length : Int))).bind fun (r122, state124) =>
  (atI t115 r122).bind fun t125 =>
  (appO todo110 (t120, t125)).bind fun todo127 =>
  some (.nx (state124, todo127))) : Option (Ctl ((List Int) × (List ((List Int) × Int))) Unit))) xs107 (state103, todo70))) (some (state63, todo70))).bind fun (state82, todo83) =>
  some (.nx (state82, todo83, nodes78)))) : Option (Ctl ((List Int) × (List ((List Int) × Int)) × (List ((List Int) × Int))) Unit)))
structure Gw (n : Nat) (i : Nat) (r : (List Int) × (List Nd) × (List Nd)) : Prop where
  s : S3 r.1
  g : Gi n r.2.2 r.2.1
  m : 2 * sz r.2.1 + i ≤ 2 * n + r.2.1.length
  l : r.2.2.length = i
  z : ∀ X ∈ r.2.2, X.1.length ≤ n
theorem places_le {n : Nat} {ts : List Int} (nd : ts.Nodup) (rg : ∀ a ∈ ts, 0 ≤ a ∧ a < (n : Int)) : ts.length ≤ n := by
  have := nodup_len (L := rangeI 0 (n : Int)) nd fun a ha => mem_rng.mpr (rg a ha)
  rw [rng_len] at this
  omega
theorem pop_last {α : Type} {xs : List α} (h : xs ≠ []) : ∃ L t, xs = L ++ [t] ∧ popO xs = some (t, L) := by
  refine ⟨xs.dropLast, xs.getLast h, (List.dropLast_concat_getLast h).symm, ?_⟩
  unfold popO
  have hl := List.length_pos_iff.mpr h
  rw [List.getElem?_eq_getElem (by omega), List.getLast_eq_getElem]
theorem grow_step {n i : Nat} (hn : n ≤ 16) (hi : i ≤ 40) {x : Int} {r : (List Int) × (List Nd) × (List Nd)} (h : Gw n i r) : ∃ r', (growF x r = some (.nx r') ∧ Gw n (i + 1) r') ∨ (growF x r = some (.bk r') ∧ (r' = r ∧ r.2.1 = [])) := by
  obtain ⟨s, td, nodes⟩ := r
  obtain ⟨gs, gi, hm, hlen, hz⟩ := h
  simp only at gi hm hlen hz
  by_cases he : td = []
  · subst he
    exact ⟨(s, [], nodes), .inr ⟨rfl, rfl, rfl⟩⟩
  have tpos := List.length_pos_iff.mpr he
  have tds : td.length ≤ sz td := sz_ge fun t ht => gi.ne t (List.mem_append_right _ ht)
  obtain ⟨L, t, rfl, hp⟩ := pop_last he
  have tl : t ∈ L ++ [t] := List.mem_append_right _ List.mem_cons_self
  have tm : t ∈ nodes ++ (L ++ [t]) := List.mem_append_right _ tl
  have tn := gi.l.nd t tm
  have tlen := places_le tn (gi.rg t tl)
  have tne := List.length_pos_iff.mpr (gi.ne t tm)
  have esz : sz (L ++ [t]) = sz L + t.1.length := by
    rw [sz_app]
    unfold sz
    simp
  rw [esz, List.length_append, List.length_singleton] at hm
  rw [List.length_append, List.length_singleton, esz] at tds
  have lL : L.length ≤ 100 := by omega
  have ha : appO nodes (isort t.1, t.2) = some (nodes ++ [(isort t.1, t.2)]) := app_ (by omega)
  have zz : ∀ X ∈ nodes ++ [(isort t.1, t.2)], X.1.length ≤ n := fun X hX => by
    rcases List.mem_append.mp hX with hX | hX
    · exact hz X hX
    · rw [List.mem_singleton] at hX
      subst hX
      show (isort t.1).length ≤ n
      rw [(isort_perm _).length_eq]
      exact tlen
  have d0 : decide (((L ++ [t]).length : Int) = (0 : Int)) = false := decide_eq_false (by simp; omega)
  by_cases h1 : (1 : Int) < (t.1.length : Int)
  · obtain ⟨d, s2, e2, _, _, g2⟩ := pick gs (many := 3) (by decide) (by decide)
    have mid : ∃ s3 k, (cond (decide (d = (0 : Int))) ((m__law_pick (s2, ((t.1.length : Int) - (1 : Int)))).bind fun (r93, state95) =>
        some (state95, ((2 : Int) + r93))) (some (s2, (2 : Int)))) = some (s3, k) ∧ S3 s3 ∧ 2 ≤ k ∧ k ≤ t.1.length := by
      by_cases hd : d = 0
      · obtain ⟨d2, s3, e3, c0, c1, g3⟩ := pick g2 (many := (t.1.length : Int) - 1) (by omega) (by omega)
        rw [decide_eq_true hd, cond_true, e3, Option.bind_some]
        exact ⟨s3, 2 + d2, rfl, g3, by omega, by omega⟩
      · rw [decide_eq_false hd, cond_false]
        exact ⟨s2, 2, rfl, g2, by omega, by omega⟩
    obtain ⟨s3, k, e3, g3, k2, k3⟩ := mid
    obtain ⟨ps, s4, e4, pt, g4⟩ := parts_ (places := t.1) g3 (by omega) (by omega : 1 ≤ k) k3
    obtain ⟨p1, p2, p3⟩ := ptn_dis pt tn
    obtain ⟨s5, C, e5, g5, fC, cy⟩ := ring_loop (ps := ps) (k := k.toNat) (td := L) g4 (by omega) pt.len (by omega) (fun p hp => ⟨pt.ne p hp, by
      have : p.length ≤ n := places_le (p2 p hp) fun a ha => gi.rg t tl a ((p3 a).mpr ⟨p, hp, ha⟩)
      omega⟩) (by omega)
    have cl : C.length = k.toNat := by rw [fst_len fC, pt.len]
    have di := fst_dis fC p1
    have cne : ∀ c ∈ C, c.1 ≠ [] := fun c hc => pt.ne _ (fst_mem fC hc)
    have gi2 := gi_step (S := isort t.1) gi (isort_perm _) (.inr ⟨cy, by omega⟩) di cne (fun c hc => p2 _ (fst_mem fC hc)) (fun c hc hm => by
      obtain ⟨i, hi, ei⟩ := List.mem_iff_getElem.mp hc
      obtain ⟨c', d', q1, q2, q3⟩ := cy i hi
      rw [List.getElem?_eq_getElem hi, ei] at q1
      cases q1
      have := dis_eq di (i := i) (by rw [List.getElem?_eq_getElem hi, ei]) q2 hm q3
      by_cases hlast : i + 1 < C.length
      · rw [Nat.mod_eq_of_lt hlast] at this; omega
      · rw [show i + 1 = C.length by omega, Nat.mod_self] at this; omega) (fun _ a => by
      rw [p3 a, ← fC]
      constructor
      · rintro ⟨p, hp, hap⟩
        obtain ⟨c, hc, rfl⟩ := List.mem_map.mp hp
        exact ⟨c, hc, hap⟩
      · rintro ⟨c, hc, hap⟩
        exact ⟨c.1, List.mem_map.mpr ⟨c, hc, rfl⟩, hap⟩)
    have sC : sz C = t.1.length := by rw [fst_sz fC, pt.pm.length_eq]
    refine ⟨(s5, L ++ C, nodes ++ [(isort t.1, t.2)]), .inl ⟨?_, ⟨g5, gi2, ?_, by rw [List.length_append, List.length_singleton]; show nodes.length + 1 = i + 1; omega, zz⟩⟩⟩
    · unfold growF
      dsimp only
      rw [d0, cond_false, hp, Option.bind_some]
      dsimp only
      rw [ha, Option.bind_some, decide_eq_true h1, cond_true, e2, Option.bind_some]
      dsimp only
      rw [e3, Option.bind_some]
      dsimp only
      rw [e4, Option.bind_some]
      dsimp only
      rw [rng (by omega) (by omega), Option.bind_some]
      have ek : k = ((k.toNat : Nat) : Int) := by omega
      rw [ek]
      have e6 := congrArg (finK (fun (rr : (List Int) × (List Nd)) => (some (rr.1, rr.2) : Option ((List Int) × (List Nd)))) (fun (_ : Unit) => none)) e5
      refine (congrArg (fun z => Option.bind z fun (w : (List Int) × (List Nd)) => (some (Ctl.nx (w.1, w.2, nodes ++ [(isort t.1, t.2)])) : Option (Ctl ((List Int) × (List Nd) × (List Nd)) Unit))) e6).trans ?_
      rfl
    · show 2 * sz (L ++ C) + (i + 1) ≤ 2 * n + (L ++ C).length
      rw [sz_app, sC, List.length_append, cl]
      omega
  · have t1 : t.1.length = 1 := by omega
    have gi2 := gi_step (C := []) (S := isort t.1) gi (isort_perm _) (.inl ⟨rfl, t1⟩) .nil (fun c hc => absurd hc List.not_mem_nil) (fun c hc => absurd hc List.not_mem_nil) (fun c hc => absurd hc List.not_mem_nil) (fun h => absurd rfl h)
    rw [List.append_nil] at gi2
    refine ⟨(s, L, nodes ++ [(isort t.1, t.2)]), .inl ⟨?_, ⟨gs, gi2, ?_, by rw [List.length_append, List.length_singleton]; show nodes.length + 1 = i + 1; omega, zz⟩⟩⟩
    · unfold growF
      dsimp only
      rw [d0, cond_false, hp, Option.bind_some]
      dsimp only
      rw [ha, Option.bind_some, decide_eq_false h1, cond_false, Option.bind_some]
    · show 2 * sz L + (i + 1) ≤ 2 * n + L.length
      omega
theorem grown {s : List Int} {n : Nat} {m : Int} (hs : S3 s) (h0 : 1 ≤ n) (hn : n ≤ 16) (m0 : 1 ≤ m) (m1 : m ≤ 16) : ∃ L s', m__law_grown (s, (n : Int), m) = some (L, s') ∧ Fam n L ∧ (L.Pairwise fun a b => a.1.length ≤ b.1.length) ∧ L.length ≤ 1000 ∧ (∀ X ∈ L, X.1.length ≤ 1000) ∧ S3 s' := by
  obtain ⟨d, s1, e1, d0, d1, g1⟩ := pick hs (many := if (n : Int) < m then (n : Int) else m) (by split <;> omega) (by split <;> omega)
  have dn : 1 + d ≤ n := by
    split at d1 <;> omega
  obtain ⟨ps, s2, e2, pt, g2⟩ := parts_ (places := rangeI 0 (n : Int)) (k := 1 + d) g1 (by rw [rng_len]; omega) (by omega) (by rw [rng_len]; omega)
  have pl : ps.length ≤ 16 := by rw [pt.len]; omega
  have pf : ps.flatten.length = n := by rw [pt.pm.length_eq, rng_len]; omega
  obtain ⟨s3, td, seen, e3, g3, ft, gt⟩ := tops_loop (ps := ps) g2 (by omega) (by omega)
  have gi := gi_start ft pt gt
  have stz : sz td = n := by rw [fst_sz ft, pf]
  obtain ⟨⟨s4, td4, nodes⟩, e4, h4⟩ := for_ib (τ := Unit) (f := growF) (xs := rangeI 0 ((2 * n : Nat) : Int)) (r := (s3, td, [])) (fun i r => Gw n i r ∧ i ≤ 2 * n) (fun r => ∃ i, Gw n i r ∧ i ≤ 2 * n ∧ r.2.1 = []) ⟨⟨g3, gi, by show 2 * sz td + 0 ≤ 2 * n + td.length; omega, rfl, fun X hX => absurd hX List.not_mem_nil⟩, Nat.zero_le _⟩ (fun i x r hx ⟨gw, hi⟩ => by
    have hlt := (rng_get hx).2
    obtain ⟨r', ⟨a, b⟩ | ⟨a, b, c⟩⟩ := grow_step hn (by omega) (x := x) gw
    · exact ⟨r', .inl ⟨a, b, by omega⟩⟩
    · exact ⟨r', .inr ⟨a, i, by rw [b]; exact gw, by omega, by rw [b]; exact c⟩⟩)
  have fin : ∃ i, Gw n i (s4, td4, nodes) ∧ i ≤ 2 * n ∧ td4 = [] := by
    rcases h4 with ⟨i, gw, hi, hz⟩ | ⟨gw, hi⟩
    · exact ⟨i, gw, hi, hz⟩
    · refine ⟨_, gw, hi, ?_⟩
      rw [rng_len] at gw
      have m4 := gw.m
      simp only at m4
      have := sz_ge (td := td4) fun t ht => gw.g.ne t (List.mem_append_right _ ht)
      exact List.length_eq_zero_iff.mp (by omega)
  obtain ⟨i, gw, hi, rfl⟩ := fin
  have fam := gi_fam gw.g
  have nl := gw.l
  simp only at nl
  obtain ⟨L, e5, pm, up⟩ := normal (nodes := nodes) (by omega)
  refine ⟨L, s4, ?_, fam.perm pm, up, by rw [pm.length_eq]; omega, fun X hX => by have := gw.z X (pm.subset hX); omega, gw.s⟩
  unfold m__law_grown
  dsimp only
  rw [rng (by omega) (by omega), Option.bind_some, e1, Option.bind_some]
  dsimp only
  rw [e2, Option.bind_some]
  dsimp only
  refine (congrArg (finK _ _) e3).trans ?_
  dsimp only [finK]
  rw [mul_l (by omega), Option.bind_some, rng (by omega) (by omega), Option.bind_some]
  have e4' : forL growF (rangeI 0 ((2 : Int) * (n : Int))) (s3, td, []) = some (.nx (s4, [], nodes)) := by
    rw [show (2 : Int) * (n : Int) = ((2 * n : Nat) : Int) by omega]
    exact e4
  refine (congrArg (finK _ _) e4').trans ?_
  dsimp only [finK]
  rw [e5, Option.bind_some]
end M

/-! N11 -/
set_option Elab.async false
set_option linter.all false
set_option maxRecDepth 100000
set_option maxHeartbeats 1000000
/-! circles among tops -/
namespace M
open PySem Dl G
open L2 (atI ixN)
theorem for_all' {α ρ τ : Type} {f : α → ρ → Option (Ctl ρ τ)} (I : Nat → ρ → Prop) (Q : ρ → Prop) (P : τ → Prop) : ∀ {xs : List α} (k : Nat) {r : ρ}, I k r → (∀ i x r, xs[i]? = some x → I (k + i) r → (∃ r', f x r = some (.nx r') ∧ I (k + i + 1) r') ∨ (∃ r', f x r = some (.bk r') ∧ Q r') ∨ ∃ t, f x r = some (.rt t) ∧ P t) → (∃ r', forL f xs r = some (.nx r') ∧ (Q r' ∨ I (k + xs.length) r')) ∨ ∃ t, forL f xs r = some (.rt t) ∧ P t
  | [], k, r, h, _ => .inl ⟨r, rfl, .inr h⟩
  | x :: xs, k, r, h, st => by
    rcases st 0 x r rfl h with ⟨r1, e, h1⟩ | ⟨r1, e, h1⟩ | ⟨t, e, h1⟩
    · have ih := for_all' I Q P (xs := xs) (k + 1) h1 fun i y r hy hr => by
        have := st (i + 1) y r (by simpa using hy) (by rw [show k + (i + 1) = k + 1 + i by omega]; exact hr)
        rw [show k + (i + 1) + 1 = k + 1 + i + 1 by omega] at this
        exact this
      unfold forL
      rw [e, List.length_cons, show k + (xs.length + 1) = k + 1 + xs.length by omega]
      exact ih
    · unfold forL
      rw [e]
      exact .inl ⟨r1, rfl, .inl h1⟩
    · unfold forL
      rw [e]
      exact .inr ⟨t, rfl, h1⟩
theorem for_all {α ρ τ : Type} {f : α → ρ → Option (Ctl ρ τ)} {xs : List α} (I : Nat → ρ → Prop) (Q : ρ → Prop) (P : τ → Prop) {r : ρ} (h : I 0 r) (st : ∀ i x r, xs[i]? = some x → I i r → (∃ r', f x r = some (.nx r') ∧ I (i + 1) r') ∨ (∃ r', f x r = some (.bk r') ∧ Q r') ∨ ∃ t, f x r = some (.rt t) ∧ P t) : (∃ r', forL f xs r = some (.nx r') ∧ (Q r' ∨ I xs.length r')) ∨ ∃ t, forL f xs r = some (.rt t) ∧ P t := by
  have := for_all' I Q P 0 h fun i x r hx hi => by
    rw [Nat.zero_add] at hi ⊢
    exact st i x r hx hi
  rw [Nat.zero_add] at this
  exact this
def tp (T : List Nd) (k : Int) : Nd := T.getD k.toNat ([], -1)
def aft (T : List Nd) (g : Int) : Int := match (rangeI 0 (T.length : Int)).find? (fun k => decide (g ∈ (tp T k).1)) with | some k => k | none => -1
theorem tp_at {T : List Nd} {k : Int} (h0 : 0 ≤ k) (h1 : k < T.length) : atI T k = some (tp T k) := at_p ([], -1) h0 h1
theorem tp_mem {T : List Nd} {k : Int} (h0 : 0 ≤ k) (h1 : k < T.length) : tp T k ∈ T := by
  unfold tp
  rw [List.getD_eq_getElem?_getD, List.getElem?_eq_getElem (by omega)]
  exact List.getElem_mem _
theorem tp_nat {T : List Nd} {k : Nat} (h : k < T.length) : tp T (k : Int) = T[k] := by
  unfold tp
  rw [Int.toNat_natCast, List.getD_eq_getElem?_getD, List.getElem?_eq_getElem h]
  rfl
theorem tp_of {T : List Nd} {t : Nd} (h : t ∈ T) : ∃ k : Int, 0 ≤ k ∧ k < T.length ∧ tp T k = t := by
  obtain ⟨i, hi, e⟩ := List.mem_iff_getElem.mp h
  exact ⟨(i : Int), by omega, by omega, by rw [tp_nat hi, e]⟩
theorem tp_eq {T : List Nd} (di : Dis T) {j k : Int} (j0 : 0 ≤ j) (j1 : j < T.length) (k0 : 0 ≤ k) (k1 : k < T.length) {a : Int} (ha : a ∈ (tp T j).1) (hb : a ∈ (tp T k).1) : j = k := by
  have := dis_eq di (i := j.toNat) (j := k.toNat) (c := tp T j) (d := tp T k) (by
    unfold tp
    rw [List.getD_eq_getElem?_getD, List.getElem?_eq_getElem (by omega)]; rfl) (by
    unfold tp
    rw [List.getD_eq_getElem?_getD, List.getElem?_eq_getElem (by omega)]; rfl) ha hb
  omega
theorem after {T : List Nd} {g : Int} (hl : T.length ≤ 1000) : m__law_after (T, g) = some (aft T g) := by
  unfold m__law_after aft
  dsimp only
  rw [rng (by omega) (by omega), Option.bind_some, for_find (fun k => decide (g ∈ (tp T k).1)) id]
  · cases (rangeI 0 (T.length : Int)).find? (fun k => decide (g ∈ (tp T k).1)) <;> rfl
  · intro k hk
    rw [mem_rng] at hk
    rw [tp_at hk.1 hk.2, Option.bind_some]
    cases decide (g ∈ (tp T k).1) <;> rfl
theorem aft_cases (T : List Nd) (g : Int) : (aft T g = -1 ∧ ∀ t ∈ T, g ∉ t.1) ∨ (0 ≤ aft T g ∧ aft T g < T.length ∧ g ∈ (tp T (aft T g)).1) := by
  unfold aft
  cases h : (rangeI 0 (T.length : Int)).find? (fun k => decide (g ∈ (tp T k).1)) with
  | none =>
    rw [List.find?_eq_none] at h
    refine .inl ⟨rfl, fun t ht hg => ?_⟩
    obtain ⟨k, k0, k1, rfl⟩ := tp_of ht
    exact h k (mem_rng.mpr ⟨k0, k1⟩) (decide_eq_true hg)
  | some k =>
    have := mem_rng.mp (List.mem_of_find?_eq_some h)
    have h2 := List.find?_some h
    exact .inr ⟨this.1, this.2, of_decide_eq_true h2⟩
def nx_ (T : List Nd) (k : Int) : Int := aft T (tp T k).2
def innF (T : List Nd) (first4 : Int) : Int → List Int → Option (Ctl (List Int) (List Int)) := (fun (turn12 : Int) (row10 : (List Int)) => ((atI row10 (-(1 : Int))).bind fun t13 =>
  (atI T t13).bind fun t15 =>
  (m__law_after (T, t15.2)).bind fun r17 =>
  cond (decide (r17 = first4)) (some (.rt row10)) (cond ((decide (r17 < (0 : Int))) || (decide (r17 ∈ row10))) (some (.bk row10)) ((appO row10 r17).bind fun row26 =>
  some (.nx row26))) : Option (Ctl (List Int) (List Int))))
/-- a row of tops that leads round -/
structure Row (T : List Nd) (row : List Int) : Prop where
  ne : row ≠ []
  nd : row.Nodup
  rg : ∀ k ∈ row, 0 ≤ k ∧ k < (T.length : Int)
  cy : ∀ i, i < row.length → nx_ T (row.getD i 0) = row.getD ((i + 1) % row.length) 0
theorem inn_at {T : List Nd} {first x : Int} {row : List Int} (hl : T.length ≤ 1000) (hr : row ≠ []) (h0 : 0 ≤ la row) (h1 : la row < T.length) : innF T first x row = cond (decide (nx_ T (la row) = first)) (some (.rt row)) (cond ((decide (nx_ T (la row) < (0 : Int))) || (decide (nx_ T (la row) ∈ row))) (some (.bk row)) ((appO row (nx_ T (la row))).bind fun row26 => some (.nx row26))) := by
  unfold innF
  rw [la_at hr, Option.bind_some, tp_at h0 h1, Option.bind_some, after hl, Option.bind_some]
  rfl
theorem inn_row {T : List Nd} {first : Int} (hl : T.length ≤ 1000) (f0 : 0 ≤ first) (f1 : first < T.length) : (∃ r, forL (innF T first) (rangeI 0 (T.length : Int)) [first] = some (.nx r)) ∨ ∃ row, forL (innF T first) (rangeI 0 (T.length : Int)) [first] = some (.rt row) ∧ Row T row := by
  rcases for_all (f := innF T first) (xs := rangeI 0 (T.length : Int)) (r := [first]) (fun i row => row.length = i + 1 ∧ row.getD 0 0 = first ∧ row.Nodup ∧ (∀ k ∈ row, 0 ≤ k ∧ k < (T.length : Int)) ∧ ∀ j, j + 1 < row.length → nx_ T (row.getD j 0) = row.getD (j + 1) 0) (fun _ => True) (Row T) ⟨rfl, rfl, by simp, fun k hk => by rw [List.mem_singleton] at hk; rw [hk]; exact ⟨f0, f1⟩, fun j hj => by simp at hj⟩ (by
    rintro i x row hx ⟨l1, l2, l3, l4, l5⟩
    have ne : row ≠ [] := fun z => by rw [z] at l1; simp at l1
    have lr := l4 _ (la_mem ne)
    rw [inn_at hl ne lr.1 lr.2]
    have li : la row = row.getD i 0 := by
      unfold la
      rw [l1, Nat.add_sub_cancel]
    by_cases c1 : nx_ T (la row) = first
    · rw [decide_eq_true c1]
      refine .inr (.inr ⟨row, rfl, ne, l3, l4, fun j hj => ?_⟩)
      by_cases hj2 : j + 1 < row.length
      · rw [l5 j hj2, Nat.mod_eq_of_lt hj2]
      · have : j = i := by omega
        rw [this, ← li, c1, show i + 1 = row.length by omega, Nat.mod_self, l2]
    · rw [decide_eq_false c1, cond_false]
      by_cases c2 : nx_ T (la row) < 0 ∨ nx_ T (la row) ∈ row
      · have : ((decide (nx_ T (la row) < (0 : Int))) || (decide (nx_ T (la row) ∈ row))) = true := by
          rw [Bool.or_eq_true, decide_eq_true_eq, decide_eq_true_eq]; exact c2
        rw [this]
        exact .inr (.inl ⟨row, rfl, trivial⟩)
      · have : ((decide (nx_ T (la row) < (0 : Int))) || (decide (nx_ T (la row) ∈ row))) = false := by
          rw [Bool.or_eq_false_iff, decide_eq_false_iff_not, decide_eq_false_iff_not]; exact ⟨fun z => c2 (.inl z), fun z => c2 (.inr z)⟩
        have hi := (rng_get hx).2
        rw [this, cond_false, app_ (by omega)]
        refine .inl ⟨_, rfl, by simp [l1], ?_, ?_, ?_, ?_⟩
        · rw [List.getD_eq_getElem?_getD, List.getElem?_append_left (by omega), ← List.getD_eq_getElem?_getD, l2]
        · rw [List.nodup_append]
          refine ⟨l3, by simp, fun a ha b hb e => c2 (.inr ?_)⟩
          rw [List.mem_singleton] at hb
          rw [← hb, ← e]
          exact ha
        · intro k hk
          rcases List.mem_append.mp hk with hk | hk
          · exact l4 k hk
          · rw [List.mem_singleton] at hk
            rcases aft_cases T (tp T (la row)).2 with ⟨z, _⟩ | ⟨z1, z2, _⟩
            · exact absurd (.inl (by show aft T (tp T (la row)).2 < 0; omega)) c2
            · rw [hk]; exact ⟨z1, z2⟩
        · intro j hj
          rw [List.length_append, List.length_singleton] at hj
          by_cases hj2 : j + 1 < row.length
          · have := l5 j hj2
            rw [List.getD_eq_getElem?_getD, List.getElem?_append_left (by omega), ← List.getD_eq_getElem?_getD, this, List.getD_eq_getElem?_getD, List.getD_eq_getElem?_getD, List.getElem?_append_left hj2]
          · have : j = i := by omega
            subst this
            rw [List.getD_eq_getElem?_getD, List.getElem?_append_left (by omega), ← List.getD_eq_getElem?_getD, ← li, List.getD_eq_getElem?_getD, List.getElem?_append_right (by omega), show j + 1 - row.length = 0 by omega]
            rfl) with ⟨r, e, _⟩ | ⟨row, e, h⟩
  · exact .inl ⟨r, e⟩
  · exact .inr ⟨row, e, h⟩
def itr (s : Int → Int) : Nat → Int → Int
  | 0, x => x
  | k + 1, x => s (itr s k x)
theorem itr_add (s : Int → Int) (a : Nat) : ∀ (b : Nat) (x : Int), itr s (b + a) x = itr s b (itr s a x)
  | 0, x => by rw [Nat.zero_add]; rfl
  | b + 1, x => by
    rw [show b + 1 + a = (b + a) + 1 by omega]
    show s (itr s (b + a) x) = s (itr s b (itr s a x))
    rw [itr_add s a b x]
/-- one that comes back to itself is found -/
theorem inn_back {T : List Nd} {first : Int} (hl : T.length ≤ 1000) (ok : ∀ k, 0 ≤ itr (nx_ T) k first ∧ itr (nx_ T) k first < T.length) {m : Nat} (m1 : 1 ≤ m) (hm : itr (nx_ T) m first = first) : ∃ row, forL (innF T first) (rangeI 0 (T.length : Int)) [first] = some (.rt row) := by
  rcases for_all (f := innF T first) (xs := rangeI 0 (T.length : Int)) (r := [first]) (fun i row => row = (List.range (i + 1)).map (fun j => itr (nx_ T) j first) ∧ row.Nodup ∧ ∀ j, 1 ≤ j → j ≤ i → itr (nx_ T) j first ≠ first) (fun _ => False) (fun _ => True) ⟨rfl, by simp, fun j a b => by omega⟩ (by
    rintro i x row hx ⟨l1, l2, l3⟩
    have rl : row.length = i + 1 := by rw [l1, List.length_map, List.length_range]
    have ne : row ≠ [] := fun z => by rw [z] at rl; simp at rl
    have lr : la row = itr (nx_ T) i first := by
      unfold la
      rw [rl, Nat.add_sub_cancel, l1, List.getD_eq_getElem?_getD, List.getElem?_map, List.getElem?_range (by omega)]
      rfl
    rw [inn_at hl ne (by rw [lr]; exact (ok i).1) (by rw [lr]; exact (ok i).2), lr, show nx_ T (itr (nx_ T) i first) = itr (nx_ T) (i + 1) first from rfl]
    by_cases c1 : itr (nx_ T) (i + 1) first = first
    · rw [decide_eq_true c1]
      exact .inr (.inr ⟨row, rfl, trivial⟩)
    · rw [decide_eq_false c1, cond_false]
      have nin : itr (nx_ T) (i + 1) first ∉ row := fun hmem => by
        rw [l1, List.mem_map] at hmem
        obtain ⟨j, hj, e⟩ := hmem
        rw [List.mem_range] at hj
        by_cases hj0 : j = 0
        · subst hj0
          exact c1 e.symm
        · -- the way back from j
          have mj : ∃ q, j + q = m * (j + 1) := ⟨m * (j + 1) - j, by
            have : j + 1 ≤ m * (j + 1) := Nat.le_mul_of_pos_left _ m1
            omega⟩
          obtain ⟨q, hq⟩ := mj
          have per : ∀ t, itr (nx_ T) (m * t) first = first := by
            intro t
            induction t with
            | zero => rfl
            | succ t ih =>
              rw [Nat.mul_succ, Nat.add_comm, itr_add, ih, hm]
          have a1 : itr (nx_ T) (q + j) first = first := by rw [Nat.add_comm, hq]; exact per _
          have a2 : itr (nx_ T) (q + (i + 1)) first = first := by
            rw [itr_add, ← e, ← itr_add]
            exact a1
          have a3 : itr (nx_ T) (i + 1 - j) first = first := by
            have : q + (i + 1) = (i + 1 - j) + (q + j) := by omega
            rw [this, itr_add, a1] at a2
            exact a2
          exact l3 (i + 1 - j) (by omega) (by omega) a3
      have nneg : ¬ itr (nx_ T) (i + 1) first < 0 := by have := (ok (i + 1)).1; omega
      rw [decide_eq_false nneg, decide_eq_false nin, Bool.or_false, cond_false]
      have hi := (rng_get hx).2
      rw [app_ (by omega)]
      refine .inl ⟨_, rfl, ?_, ?_, fun j a b => ?_⟩
      · rw [List.range_succ, List.map_append, ← l1]
        rfl
      · rw [List.nodup_append]
        refine ⟨l2, by simp, fun a ha b hb e => nin ?_⟩
        rw [List.mem_singleton] at hb
        rw [← hb, ← e]
        exact ha
      · by_cases hj : j = i + 1
        · rw [hj]; exact c1
        · exact l3 j a (by omega)) with ⟨r, e, h⟩ | ⟨row, e, _⟩
  · exfalso
    rcases h with h | ⟨h1, h2, _⟩
    · exact h
    · rw [rng_len, Int.toNat_natCast] at h1
      have : r.length ≤ (rangeI 0 (T.length : Int)).length := nodup_len h2 fun a ha => by
        rw [h1, List.mem_map] at ha
        obtain ⟨j, _, rfl⟩ := ha
        exact mem_rng.mpr (ok j)
      rw [rng_len, h1, List.length_map, List.length_range] at this
      omega
  · exact ⟨row, e⟩
theorem circle {T : List Nd} (hl : T.length ≤ 1000) (di : Dis T) : (m__law_circle T = some [] ∧ NoV T) ∨ ∃ row, m__law_circle T = some row ∧ Row T row := by
  have out : (∃ r, forL (fun (first4 : Int) (_ : Unit) => ((rngO (0 : Int) (T.length : Int)).bind fun xs8 =>
      finK (fun (row10 : (List Int)) => (some (.nx ()))) (fun (tt : List Int) => some (.rt tt)) (forL (innF T first4) xs8 [first4]) : Option (Ctl Unit (List Int)))) (rangeI 0 (T.length : Int)) () = some (.nx r) ∧ (False ∨ ∀ j, j < (rangeI 0 (T.length : Int)).length → ¬ ∃ row, forL (innF T (j : Int)) (rangeI 0 (T.length : Int)) [(j : Int)] = some (.rt row))) ∨ ∃ row, forL (fun (first4 : Int) (_ : Unit) => ((rngO (0 : Int) (T.length : Int)).bind fun xs8 =>
      finK (fun (row10 : (List Int)) => (some (.nx ()))) (fun (tt : List Int) => some (.rt tt)) (forL (innF T first4) xs8 [first4]) : Option (Ctl Unit (List Int)))) (rangeI 0 (T.length : Int)) () = some (.rt row) ∧ Row T row :=
    for_all (fun i _ => ∀ j : Nat, j < i → ¬ ∃ row, forL (innF T (j : Int)) (rangeI 0 (T.length : Int)) [(j : Int)] = some (.rt row)) (fun _ => False) (Row T) (fun j hj => absurd hj (Nat.not_lt_zero _)) (by
      intro i first _ hx ih
      obtain ⟨rfl, hi⟩ := rng_get hx
      rw [rng (by omega) (by omega), Option.bind_some]
      rcases inn_row (T := T) (first := (i : Int)) hl (by omega) (by omega) with ⟨r, e⟩ | ⟨row, e, h⟩
      · rw [e]
        refine .inl ⟨(), rfl, fun j hj => ?_⟩
        rcases Nat.lt_succ_iff_lt_or_eq.mp hj with z | rfl
        · exact ih j z
        · rintro ⟨row, e2⟩
          rw [e] at e2
          cases e2
      · rw [e]
        exact .inr (.inr ⟨row, rfl, h⟩))
  have hc : m__law_circle T = finK (fun (_ : Unit) => (some ([] : List Int))) (fun (tt : List Int) => some tt) (forL (fun (first4 : Int) (_ : Unit) => ((rngO (0 : Int) (T.length : Int)).bind fun xs8 =>
      finK (fun (row10 : (List Int)) => (some (.nx ()))) (fun (tt : List Int) => some (.rt tt)) (forL (innF T first4) xs8 [first4]) : Option (Ctl Unit (List Int)))) (rangeI 0 (T.length : Int)) ()) := by
    unfold m__law_circle
    rw [rng (by omega) (by omega), Option.bind_some]
    rfl
  rcases out with ⟨r, e, h⟩ | ⟨row, e, h⟩
  · refine .inl ⟨by rw [hc, e]; rfl, ?_⟩
    have hno := h.resolve_left id
    rintro V ⟨t0, ht0, hV0⟩ cl
    -- tops in V lead to tops in V
    have stp : ∀ k : Int, 0 ≤ k → k < T.length → V (tp T k) → 0 ≤ nx_ T k ∧ nx_ T k < T.length ∧ V (tp T (nx_ T k)) := fun k k0 k1 hv => by
      obtain ⟨t', ht', hv', hm⟩ := cl _ (tp_mem k0 k1) hv
      obtain ⟨k', a0, a1, rfl⟩ := tp_of ht'
      rcases aft_cases T (tp T k).2 with ⟨_, z⟩ | ⟨z1, z2, z3⟩
      · exact absurd hm (z _ ht')
      · have : k' = nx_ T k := tp_eq di a0 a1 z1 z2 hm z3
        rw [← this]
        exact ⟨a0, a1, hv'⟩
    obtain ⟨k0, a0, a1, rfl⟩ := tp_of ht0
    have all : ∀ j, 0 ≤ itr (nx_ T) j k0 ∧ itr (nx_ T) j k0 < T.length ∧ V (tp T (itr (nx_ T) j k0)) := by
      intro j
      induction j with
      | zero => exact ⟨a0, a1, hV0⟩
      | succ j ih => exact stp _ ih.1 ih.2.1 ih.2.2
    have pig : ¬ ((List.range (T.length + 1)).map fun j => itr (nx_ T) j k0).Nodup := fun nd => by
      have : ((List.range (T.length + 1)).map fun j => itr (nx_ T) j k0).length ≤ (rangeI 0 (T.length : Int)).length := nodup_len nd fun a ha => by
        rw [List.mem_map] at ha
        obtain ⟨j, _, rfl⟩ := ha
        exact mem_rng.mpr ⟨(all j).1, (all j).2.1⟩
      rw [rng_len, List.length_map, List.length_range] at this
      omega
    have two : ∃ i j, i < j ∧ itr (nx_ T) i k0 = itr (nx_ T) j k0 := by
      refine Classical.byContradiction fun hno2 => pig ?_
      rw [List.nodup_iff_pairwise_ne, List.pairwise_map]
      refine (List.pairwise_lt_range (n := T.length + 1)).imp fun {i j} hij e => hno2 ⟨i, j, hij, e⟩
    obtain ⟨i, j, hij, e2⟩ := two
    obtain ⟨f0, f1, _⟩ := all i
    refine hno (itr (nx_ T) i k0).toNat (by rw [rng_len]; omega) ?_
    rw [Int.toNat_of_nonneg f0]
    refine inn_back hl (fun k => ?_) (m := j - i) (by omega) ?_
    · rw [← itr_add]
      exact ⟨(all _).1, (all _).2.1⟩
    · rw [← itr_add, show j - i + i = j by omega, ← e2]
  · exact .inr ⟨row, by rw [hc, e]; rfl, h⟩
end M

/-! N12 -/
set_option Elab.async false
set_option linter.all false
set_option maxRecDepth 100000
set_option maxHeartbeats 1000000
/-! nests wound from below -/
namespace M
open PySem Dl G
open L2 (atI ixN)
theorem union_ {T : List Nd} {row : List Int} (rg : ∀ k ∈ row, 0 ≤ k ∧ k < (T.length : Int)) (hl : ((row.map (tp T)).map fun c => c.1).flatten.length ≤ 1000) : m__law_union (T, row) = some (isort ((row.map (tp T)).map fun c => c.1).flatten) := by
  unfold m__law_union
  dsimp only
  obtain ⟨r, e, h⟩ := for_inv (τ := Unit) (ρ := List Int) (xs := row) (r := []) (f := fun (x_k6 : Int) (places4 : (List Int)) => ((atI T x_k6).bind fun t7 =>
    (catO places4 t7.1).bind fun t11 =>
    some (.nx t11) : Option (Ctl (List Int) Unit))) (fun i r => r = (((row.take i).map (tp T)).map fun c => c.1).flatten) rfl (by
    intro i k r hk h
    have := rg k (List.mem_of_getElem? hk)
    have ht : row.take (i + 1) = row.take i ++ [k] := by rw [List.take_add_one, hk]; rfl
    have hlen : r.length + (tp T k).1.length ≤ 1000 := by
      have e : ((((row.take (i + 1) ++ row.drop (i + 1)).map (tp T)).map fun c => c.1).flatten).length ≤ 1000 := by rw [List.take_append_drop]; exact hl
      rw [ht, List.map_append, List.map_append, List.flatten_append, List.length_append, List.map_append, List.map_append, List.flatten_append, List.length_append, ← h] at e
      simp at e
      omega
    rw [tp_at this.1 this.2, Option.bind_some, cat1 hlen, Option.bind_some]
    refine ⟨_, rfl, ?_⟩
    rw [h, ht]
    simp)
  rw [e]
  rw [List.take_of_length_le (Nat.le_refl _)] at h
  rw [h]
  rfl
theorem gate_eq : m__law_gate_L = m__law_gate := rfl
theorem gate_ {s places : List Int} {n : Nat} {far : Int} (hs : S3 s) (hn : n ≤ 16) (f0 : 0 < far) (f1 : far ≤ 100) : ∃ g s', m__law_gate (s, (n : Int), places, far) = some (g, s') ∧ g ∉ places.filter (fun a => decide (0 ≤ a)) ∧ (g = -1 ∨ (0 ≤ g ∧ g < (n : Int) ∧ g ∉ places)) ∧ S3 s' := by
  unfold m__law_gate
  dsimp only
  rw [rng (by omega) (by omega), Option.bind_some, lcO_pure (fun p => !decide (p ∈ places)) id (by rw [rng_len]; omega) (fun _ _ => rfl) fun _ _ _ => rfl, Option.bind_some]
  dsimp only
  rw [List.map_id]
  generalize hys : (rangeI 0 (n : Int)).filter (fun p => !decide (p ∈ places)) = ys
  have yl : ys.length ≤ 16 := by
    rw [← hys]
    have := List.length_filter_le (fun p => !decide (p ∈ places)) (rangeI 0 (n : Int))
    rw [rng_len] at this
    omega
  have ym : ∀ a ∈ ys, 0 ≤ a ∧ a < (n : Int) ∧ a ∉ places := fun a ha => by
    rw [← hys, List.mem_filter, mem_rng] at ha
    exact ⟨ha.1.1, ha.1.2, by simpa using ha.2⟩
  have home : (-1 : Int) ∉ places.filter (fun a => decide (0 ≤ a)) := fun h => by
    rw [List.mem_filter] at h
    simp at h
  by_cases hz : (ys.length : Int) = 0
  · rw [decide_eq_true hz, cond_true, Option.bind_some]
    exact ⟨-1, s, rfl, home, .inl rfl, hs⟩
  · obtain ⟨d, s1, e1, _, _, g1⟩ := pick hs (many := far) f0 (by omega)
    rw [decide_eq_false hz, cond_false, e1, Option.bind_some, Option.bind_some]
    dsimp only
    by_cases hd : d = 0
    · rw [decide_eq_true hd, cond_true]
      exact ⟨-1, s1, rfl, home, .inl rfl, g1⟩
    · obtain ⟨d2, s2, e2, c0, c1, g2⟩ := pick g1 (many := (ys.length : Int)) (by omega) (by omega)
      obtain ⟨z, z1, z2⟩ := at_ (xs := ys) c0 c1
      have hm := ym z (List.mem_of_getElem? z2)
      rw [decide_eq_false hd, cond_false, e2, Option.bind_some]
      dsimp only
      rw [z1, Option.bind_some]
      exact ⟨z, s2, rfl, fun h => hm.2.2 (List.mem_filter.mp h).1, .inr hm, g2⟩
theorem lc_rel {α β ρ : Type} {ef : α → ρ → Option (β × ρ)} (I : ρ → Prop) (J : α → β → Prop) : ∀ {xs : List α} {r : ρ}, I r → (∀ x r, x ∈ xs → I r → ∃ y r', ef x r = some (y, r') ∧ J x y ∧ I r') → ∃ ys r', lcM (fun _ r => some (true, r)) ef xs r = some (ys, r') ∧ ys.length = xs.length ∧ (∀ (i : Nat) x y, xs[i]? = some x → ys[i]? = some y → J x y) ∧ I r'
  | [], r, h, _ => ⟨[], r, rfl, rfl, fun i x y h => by simp at h, h⟩
  | x :: xs, r, h, st => by
    obtain ⟨y, r1, e1, j1, h1⟩ := st x r List.mem_cons_self h
    obtain ⟨ys, r2, e2, l2, j2, h2⟩ := lc_rel I J (xs := xs) h1 fun z r hz hr => st z r (List.mem_cons_of_mem _ hz) hr
    refine ⟨y :: ys, r2, ?_, by simp [l2], fun i a b ha hb => ?_, h2⟩
    · unfold lcM
      simp only [e1, e2]
    · cases i with
      | zero => simp at ha hb; subst ha; subst hb; exact j1
      | succ i => exact j2 i a b (by simpa using ha) (by simpa using hb)
theorem singles {s : List Int} {n : Nat} {far : Int} (hs : S3 s) (h0 : 1 ≤ n) (hn : n ≤ 16) (f0 : 0 < far) (f1 : far ≤ 100) : ∃ F s', lcO (fun (place : Int) (rr : (List Int)) => match rr with | state => some (true, state)) (fun (place : Int) (rr : (List Int)) => match rr with | state => (m__law_gate_L (state, (n : Int), [place], far)).bind fun (r3, state5) => some (([place], r3), state5)) (rangeI 0 (n : Int)) s = some (F, s') ∧ Wi n F F ∧ F.length = n ∧ S3 s' := by
  obtain ⟨F, s', e, fl, fr, g⟩ := lc_rel (ef := fun (place : Int) (rr : (List Int)) => match rr with | state => (m__law_gate_L (state, (n : Int), [place], far)).bind fun (r3, state5) => some (([place], r3), state5)) (xs := rangeI 0 (n : Int)) (r := s) S3 (fun p (X : Nd) => X.1 = [p] ∧ X.2 ≠ p ∧ (X.2 = -1 ∨ (0 ≤ X.2 ∧ X.2 < (n : Int)))) hs fun p r hp g => by
    rw [mem_rng] at hp
    obtain ⟨gt, s1, e1, _, g2, g3⟩ := gate_ (places := [p]) (far := far) g hn f0 f1
    refine ⟨([p], gt), s1, ?_, ⟨rfl, ?_, ?_⟩, g3⟩
    · dsimp only
      rw [gate_eq, e1, Option.bind_some]
    · rcases g2 with z | ⟨_, _, z⟩
      · show gt ≠ p; omega
      · exact fun w => z (by rw [← w]; exact List.mem_singleton.mpr rfl)
    · rcases g2 with z | ⟨z1, z2, _⟩
      · exact .inl z
      · exact .inr ⟨z1, z2⟩
  rw [rng_len, Int.toNat_natCast] at fl
  have at_i : ∀ i (hi : i < F.length), F[i].1 = [(i : Int)] ∧ F[i].2 ≠ (i : Int) ∧ (F[i].2 = -1 ∨ (0 ≤ F[i].2 ∧ F[i].2 < (n : Int))) := fun i hi => by
    have hlt : i < (rangeI 0 (n : Int)).length := by rw [rng_len]; omega
    have e1 := (rng_get (List.getElem?_eq_getElem hlt)).1
    exact fr i (i : Int) F[i] (by rw [List.getElem?_eq_getElem hlt, e1]) (List.getElem?_eq_getElem hi)
  have at_m : ∀ X ∈ F, ∃ i, ∃ hi : i < F.length, F[i] = X ∧ X.1 = [(i : Int)] ∧ X.2 ≠ (i : Int) ∧ (X.2 = -1 ∨ (0 ≤ X.2 ∧ X.2 < (n : Int))) := fun X hX => by
    obtain ⟨i, hi, rfl⟩ := List.mem_iff_getElem.mp hX
    exact ⟨i, hi, rfl, at_i i hi⟩
  have same : ∀ X ∈ F, ∀ Y ∈ F, ∀ a, a ∈ X.1 → a ∈ Y.1 → X = Y := fun X hX Y hY a ha hb => by
    obtain ⟨i, hi, ei, e1, _⟩ := at_m X hX
    obtain ⟨j, hj, ej, e2, _⟩ := at_m Y hY
    rw [e1, List.mem_singleton] at ha
    rw [e2, List.mem_singleton] at hb
    have : i = j := by omega
    subst this
    rw [← ei, ← ej]
  have ne : ∀ X ∈ F, X.1 ≠ [] := fun X hX => by
    obtain ⟨i, _, _, e1, _⟩ := at_m X hX
    rw [e1]; simp
  have both : ∀ X ∈ F, ∀ Y ∈ F, Sub X.1 Y.1 → X = Y := fun X hX Y hY xy => by
    obtain ⟨a, ha⟩ := List.exists_mem_of_ne_nil _ (ne X hX)
    exact same X hX Y hY a ha (xy a ha)
  refine ⟨F, s', ?_, ⟨⟨fun X hX => ?_, fun X hX => ?_, fun X hX Y hY a ha hb => ?_, fun X hX Y hY xy _ => ?_, fun X hX Y hY xy yx => ?_⟩, fun R hR U ⟨u, h1, h2⟩ _ a ha => ?_, ne, fun X hX a ha => ?_, fun t ht => ht, fun a a0 a1 => ?_, fun X hX t ht a ha hb => ?_, ?_⟩, fl, g⟩
  · unfold lcO
    rw [if_pos (by rw [rng_len]; omega)]
    exact e
  · obtain ⟨i, _, _, e1, _⟩ := at_m X hX
    rw [e1]; simp
  · obtain ⟨i, _, _, e1, e2, e3⟩ := at_m X hX
    refine ⟨?_, e3⟩
    rw [e1, List.mem_singleton]
    exact e2
  · rw [same X hX Y hY a ha hb]; exact .inl (Sub.refl _)
  · rw [both X hX Y hY xy]
  · rw [both X hX Y hY xy] at yx
    exact absurd (Sub.refl _) yx
  · obtain ⟨i, _, _, e1, _⟩ := at_m R hR
    rw [e1, List.mem_singleton] at h1 ha
    rw [ha, ← h1]; exact h2
  · obtain ⟨i, hi, _, e1, _⟩ := at_m X hX
    rw [e1, List.mem_singleton] at ha
    omega
  · have hi : a.toNat < F.length := by omega
    refine ⟨F[a.toNat], List.getElem_mem hi, ?_⟩
    rw [(at_i _ hi).1, List.mem_singleton]
    omega
  · rw [same X hX t ht a ha hb]; exact Sub.refl _
  · unfold Dis
    rw [List.pairwise_iff_getElem]
    intro i j hi hj hij a ha hb
    rw [(at_i i hi).1, List.mem_singleton] at ha
    rw [(at_i j hj).1, List.mem_singleton] at hb
    omega
end M

/-! N13 -/
set_option Elab.async false
set_option linter.all false
set_option maxRecDepth 100000
set_option maxHeartbeats 1000000
namespace M
open PySem Dl G
open L2 (atI ixN)
theorem flat_nodup : ∀ {C : List Nd}, Dis C → (∀ c ∈ C, c.1.Nodup) → (C.map fun c => c.1).flatten.Nodup
  | [], _, _ => by simp
  | c :: C, d, h => by
    have d2 := List.pairwise_cons.mp d
    rw [List.map_cons, List.flatten_cons, List.nodup_append]
    refine ⟨h c List.mem_cons_self, flat_nodup d2.2 fun x hx => h x (List.mem_cons_of_mem _ hx), fun a ha b hb e => ?_⟩
    subst e
    rw [List.mem_flatten] at hb
    obtain ⟨l, hl, hal⟩ := hb
    obtain ⟨x, hx, rfl⟩ := List.mem_map.mp hl
    exact d2.1 x hx a ha hal
theorem flat_mem {C : List Nd} {a : Int} : a ∈ (C.map fun c => c.1).flatten ↔ ∃ c ∈ C, a ∈ c.1 := by
  rw [List.mem_flatten]
  constructor
  · rintro ⟨l, hl, ha⟩
    obtain ⟨c, hc, rfl⟩ := List.mem_map.mp hl
    exact ⟨c, hc, ha⟩
  · rintro ⟨c, hc, ha⟩
    exact ⟨c.1, List.mem_map.mpr ⟨c, hc, rfl⟩, ha⟩
theorem tops_map {T : List Nd} : (rangeI 0 (T.length : Int)).map (tp T) = T := by
  refine List.ext_getElem (by rw [List.length_map, rng_len]; omega) fun i h1 h2 => ?_
  have hlt : i < (rangeI 0 (T.length : Int)).length := by rw [rng_len]; omega
  have e1 : (rangeI 0 (T.length : Int))[i] = (i : Int) := (rng_get (List.getElem?_eq_getElem hlt)).1
  rw [List.getElem_map, e1, tp_nat h2]
theorem getD_i {row : List Int} {i : Nat} (h : i < row.length) : row.getD i 0 = row[i] := by rw [List.getD_eq_getElem?_getD, List.getElem?_eq_getElem h]; rfl
theorem row_step {n : Nat} {F T : List Nd} {row : List Int} {g : Int} (h : Wi n F T) (r : Row T row)
    (gn : g = -1 ∨ (0 ≤ g ∧ g < (n : Int) ∧ g ∉ isort ((row.map (tp T)).map fun c => c.1).flatten)) :
    ((row.map (tp T)).map fun c => c.1).flatten.length ≤ n ∧ 2 ≤ row.length ∧
    Wi n (F ++ [(isort ((row.map (tp T)).map fun c => c.1).flatten, g)]) (((rangeI 0 (T.length : Int)).filter fun k => !decide (k ∈ row)).map (tp T) ++ [(isort ((row.map (tp T)).map fun c => c.1).flatten, g)]) := by
  have tF : ∀ k ∈ row, tp T k ∈ T := fun k hk => tp_mem (r.rg k hk).1 (r.rg k hk).2
  have cT : ∀ c ∈ row.map (tp T), c ∈ T := fun c hc => by
    obtain ⟨k, hk, rfl⟩ := List.mem_map.mp hc
    exact tF k hk
  have nd2 := List.pairwise_iff_getElem.mp (List.nodup_iff_pairwise_ne.mp r.nd)
  have di : Dis (row.map (tp T)) := by
    unfold Dis
    rw [List.pairwise_map]
    refine (List.nodup_iff_pairwise_ne.mp r.nd).imp_of_mem fun {j k} hj hk hne a ha hb => hne ?_
    exact tp_eq h.dis (r.rg j hj).1 (r.rg j hj).2 (r.rg k hk).1 (r.rg k hk).2 ha hb
  have lpos := List.length_pos_iff.mpr r.ne
  have gate : ∀ i (hi : i < row.length), ∃ hj : (i + 1) % row.length < row.length, (tp T row[i]).2 ∈ (tp T row[(i + 1) % row.length]).1 := fun i hi => by
    have hj : (i + 1) % row.length < row.length := Nat.mod_lt _ lpos
    refine ⟨hj, ?_⟩
    have c := r.cy i hi
    rw [getD_i hi, getD_i hj] at c
    have rg2 := r.rg _ (List.getElem_mem hj)
    rcases aft_cases T (tp T row[i]).2 with ⟨z, _⟩ | ⟨_, _, z⟩
    · have : nx_ T row[i] = -1 := z
      rw [c] at this
      omega
    · have e : aft T (tp T row[i]).2 = row[(i + 1) % row.length] := c
      rw [e] at z
      exact z
  have cy : Cyc (row.map (tp T)) := fun i hi => by
    rw [List.length_map] at hi
    obtain ⟨hj, hm⟩ := gate i hi
    refine ⟨tp T row[i], tp T row[(i + 1) % row.length], ?_, ?_, hm⟩
    · rw [List.getElem?_map, List.getElem?_eq_getElem hi]; rfl
    · rw [List.length_map, List.getElem?_map, List.getElem?_eq_getElem hj]; rfl
  have two : 2 ≤ row.length := by
    refine Classical.byContradiction fun hno => ?_
    have h1 : row.length = 1 := by omega
    obtain ⟨hj, hm⟩ := gate 0 lpos
    have e : (0 + 1) % row.length = 0 := by rw [h1]
    simp only [e] at hm
    exact (h.l.gt _ (h.sub _ (tF _ (List.getElem_mem lpos)))).1 hm
  have fn : ((row.map (tp T)).map fun c => c.1).flatten.Nodup := flat_nodup di fun c hc => h.l.nd c (h.sub c (cT c hc))
  have fr : ∀ a ∈ ((row.map (tp T)).map fun c => c.1).flatten, 0 ≤ a ∧ a < (n : Int) := fun a ha => by
    obtain ⟨c, hc, hac⟩ := flat_mem.mp ha
    exact h.rg c (h.sub c (cT c hc)) a hac
  have mu : ∀ a, a ∈ isort ((row.map (tp T)).map fun c => c.1).flatten ↔ ∃ c ∈ row.map (tp T), a ∈ c.1 := fun a => by
    rw [(isort_perm _).mem_iff]
    exact flat_mem
  refine ⟨places_le fn fr, two, wi_step h cT cy di (by rw [List.length_map]; exact two) mu ((isort_perm _).symm.nodup fn) ?_ ?_ ?_ ?_ ?_⟩
  · rcases gn with z | ⟨_, _, z⟩
    · intro hm
      have := fr g ((isort_perm _).mem_iff.mp hm)
      omega
    · exact z
  · rcases gn with z | ⟨z1, z2, _⟩
    · exact .inl z
    · exact .inr ⟨z1, z2⟩
  · have := (List.filter_sublist (p := fun k => !decide (k ∈ row)) (l := rangeI 0 (T.length : Int))).map (tp T)
    rw [tops_map] at this
    exact this
  · intro t ht
    obtain ⟨k, k0, k1, rfl⟩ := tp_of ht
    by_cases hk : k ∈ row
    · exact .inr (List.mem_map.mpr ⟨k, hk, rfl⟩)
    · exact .inl (List.mem_map.mpr ⟨k, List.mem_filter.mpr ⟨mem_rng.mpr ⟨k0, k1⟩, by simpa using hk⟩, rfl⟩)
  · intro t ht c hc a ha hb
    obtain ⟨j, hj, rfl⟩ := List.mem_map.mp ht
    obtain ⟨k, hk, rfl⟩ := List.mem_map.mp hc
    rw [List.mem_filter, mem_rng] at hj
    have := tp_eq h.dis hj.1.1 hj.1.2 (r.rg k hk).1 (r.rg k hk).2 ha hb
    subst this
    simp [hk] at hj
def woundF (size far : Int) : Int → (List Int) × (List Nd) × (List Nd) → Option (Ctl ((List Int) × (List Nd) × (List Nd)) Unit) := (fun (turn21 : Int) (rr : (List Int) × (List ((List Int) × Int)) × (List ((List Int) × Int))) => (match rr with | (state17, nodes18, tops19) => ((m__law_circle tops19).bind fun r22 =>
  cond (decide ((r22.length : Int) = (0 : Int))) (some (.bk (state17, nodes18, tops19))) ((m__law_union (tops19, r22)).bind fun r28 =>
  (m__law_gate (state17, size, r28, far)).bind fun (r33, state35) =>
  (rngO (0 : Int) (tops19.length : Int)).bind fun xs39 =>
  (lcO (fun (x_k : Int) (rr : Unit) => match rr with | () => some ((!decide (x_k ∈ r22)), ())) (fun (x_k : Int) (rr : Unit) => match rr with | () => (atI tops19 x_k).bind fun t41 => some (t41, ())) xs39 ()).bind fun (ys43, _) =>
  (catO ys43 [(r28, r33)]).bind fun t47 =>
  (appO nodes18 (r28, r33)).bind fun nodes51 =>
  some (.nx (state35, nodes51, t47)))) : Option (Ctl ((List Int) × (List ((List Int) × Int)) × (List ((List Int) × Int))) Unit)))
structure Ww (n i : Nat) (r : (List Int) × (List Nd) × (List Nd)) : Prop where
  s : S3 r.1
  w : Wi n r.2.1 r.2.2
  t : r.2.2.length + i ≤ n
  l : r.2.1.length ≤ n + i
theorem wi_len {n : Nat} {F T : List Nd} (h : Wi n F T) : ∀ X ∈ F, X.1.length ≤ n := fun X hX => places_le (h.l.nd X hX) (h.rg X hX)
theorem wound_step {n i : Nat} {far : Int} (hn : n ≤ 16) (hi : i ≤ 16) (f0 : 0 < far) (f1 : far ≤ 100) {x : Int} {r : (List Int) × (List Nd) × (List Nd)} (h : Ww n i r) : ∃ r', (woundF n far x r = some (.nx r') ∧ Ww n (i + 1) r') ∨ (woundF n far x r = some (.bk r') ∧ (r' = r ∧ NoV r.2.2)) := by
  obtain ⟨s, F, T⟩ := r
  obtain ⟨gs, w, ht, hl⟩ := h
  simp only at w ht hl
  rcases circle (T := T) (by omega) w.dis with ⟨e, no⟩ | ⟨row, e, r⟩
  · refine ⟨(s, F, T), .inr ⟨?_, rfl, no⟩⟩
    unfold woundF
    dsimp only
    rw [e]
    rfl
  · obtain ⟨gt, s1, e1, _, g2, g3⟩ := gate_ (places := isort ((row.map (tp T)).map fun c => c.1).flatten) (far := far) gs hn f0 f1
    obtain ⟨fl, two, w2⟩ := row_step w r g2
    have rl : row.length + (((rangeI 0 (T.length : Int)).filter fun k => !decide (k ∈ row))).length ≤ T.length := by
      have : (row ++ ((rangeI 0 (T.length : Int)).filter fun k => !decide (k ∈ row))).length ≤ (rangeI 0 (T.length : Int)).length := nodup_len (by
        rw [List.nodup_append]
        refine ⟨r.nd, (rng_nodup _).sublist List.filter_sublist, fun a ha b hb e => ?_⟩
        subst e
        rw [List.mem_filter] at hb
        simp [ha] at hb) fun a ha => by
        rcases List.mem_append.mp ha with ha | ha
        · exact mem_rng.mpr (r.rg a ha)
        · exact (List.mem_filter.mp ha).1
      rw [List.length_append, rng_len] at this
      omega
    refine ⟨(s1, F ++ [(isort ((row.map (tp T)).map fun c => c.1).flatten, gt)], ((rangeI 0 (T.length : Int)).filter fun k => !decide (k ∈ row)).map (tp T) ++ [(isort ((row.map (tp T)).map fun c => c.1).flatten, gt)]), .inl ⟨?_, ⟨g3, w2, ?_, ?_⟩⟩⟩
    · unfold woundF
      dsimp only
      rw [e, Option.bind_some, decide_eq_false (by omega : ¬ (row.length : Int) = 0), cond_false, union_ r.rg (by omega), Option.bind_some, e1, Option.bind_some]
      dsimp only
      rw [rng (by omega) (by omega), Option.bind_some, lcO_pure (fun k => !decide (k ∈ row)) (tp T) (by rw [rng_len]; omega) (fun _ _ => rfl) fun k hk _ => by
        rw [mem_rng] at hk
        rw [tp_at hk.1 hk.2]
        rfl, Option.bind_some]
      dsimp only
      have ec : ∀ (xs : List Nd) (y : Nd), xs.length ≤ 1000 → catO xs [y] = some (xs ++ [y]) := fun xs y hx => by
        unfold catO
        rw [if_pos (by simp; omega)]
      rw [ec _ _ (by rw [List.length_map]; omega), Option.bind_some, app_ (by omega), Option.bind_some]
    · show ((((rangeI 0 (T.length : Int)).filter fun k => !decide (k ∈ row)).map (tp T)) ++ [_]).length + (i + 1) ≤ n
      rw [List.length_append, List.length_map, List.length_singleton]
      omega
    · show (F ++ [_]).length ≤ n + (i + 1)
      rw [List.length_append, List.length_singleton]
      omega
theorem wound {s : List Int} {n : Nat} {far : Int} (hs : S3 s) (h0 : 1 ≤ n) (hn : n ≤ 16) (f0 : 0 < far) (f1 : far ≤ 100) : ∃ L s', m__law_wound (s, (n : Int), far) = some (L, s') ∧ Fam n L ∧ (L.Pairwise fun a b => a.1.length ≤ b.1.length) ∧ L.length ≤ 1000 ∧ (∀ X ∈ L, X.1.length ≤ 1000) ∧ S3 s' := by
  obtain ⟨F, s1, e1, w, fl, g1⟩ := singles hs h0 hn f0 f1
  obtain ⟨⟨s2, F2, T2⟩, e2, h2⟩ := for_ib (τ := Unit) (f := woundF n far) (xs := rangeI 0 (n : Int)) (r := (s1, F, F)) (fun i r => Ww n i r) (fun r => ∃ i, i ≤ 16 ∧ Ww n i r ∧ NoV r.2.2) ⟨g1, w, by show F.length + 0 ≤ n; omega, by show F.length ≤ n + 0; omega⟩ (fun i x r hx gw => by
    have hlt := (rng_get hx).2
    obtain ⟨r', ⟨a, b⟩ | ⟨a, b, c⟩⟩ := wound_step hn (by omega) f0 f1 (x := x) gw
    · exact ⟨r', .inl ⟨a, b⟩⟩
    · exact ⟨r', .inr ⟨a, i, by omega, by rw [b]; exact gw, by rw [b]; exact c⟩⟩)
  have fin : ∃ i, i ≤ 16 ∧ Ww n i (s2, F2, T2) ∧ NoV T2 := by
    rcases h2 with h2 | gw
    · exact h2
    · exfalso
      have ht := gw.t
      rw [rng_len] at ht
      simp only at ht
      obtain ⟨t, ht2, _⟩ := gw.w.cov 0 (Int.le_refl _) (by omega)
      have := List.length_pos_of_mem ht2
      simp only at this
      omega
  obtain ⟨i, hi, gw, no⟩ := fin
  have fam := wi_fam gw.w no
  have nl := gw.l
  simp only at nl
  obtain ⟨L, e5, pm, up⟩ := normal (nodes := F2) (by omega)
  have wl := wi_len gw.w
  refine ⟨L, s2, ?_, fam.perm pm, up, by rw [pm.length_eq]; omega, fun X hX => by have := wl X (pm.subset hX); omega, gw.s⟩
  unfold m__law_wound
  dsimp only
  rw [rng (by omega) (by omega), Option.bind_some]
  refine (congrArg (fun z => Option.bind z _) e1).trans ?_
  rw [Option.bind_some]
  dsimp only
  rw [Option.bind_some]
  refine (congrArg (finK _ _) e2).trans ?_
  dsimp only [finK]
  rw [e5, Option.bind_some]
theorem any_nest {s : List Int} {n : Nat} (hs : S3 s) (h0 : 1 ≤ n) (hn : n ≤ 16) : ∃ L s', m__law_any_nest (s, (n : Int)) = some (L, s') ∧ Fam n L ∧ (L.Pairwise fun a b => a.1.length ≤ b.1.length) ∧ L.length ≤ 1000 ∧ (∀ X ∈ L, X.1.length ≤ 1000) ∧ S3 s' := by
  obtain ⟨d, s1, e1, _, _, g1⟩ := pick hs (many := 2) (by decide) (by decide)
  unfold m__law_any_nest
  dsimp only
  rw [e1, Option.bind_some]
  dsimp only
  by_cases hd : d = 0
  · obtain ⟨L, s2, e2, h⟩ := grown (m := 3) g1 h0 hn (by decide) (by decide)
    rw [decide_eq_true hd, cond_true, e2]
    exact ⟨L, s2, rfl, h⟩
  · obtain ⟨L, s2, e2, h⟩ := wound (far := 5) g1 h0 hn (by decide) (by decide)
    rw [decide_eq_false hd, cond_false, e2]
    exact ⟨L, s2, rfl, h⟩
end M

/-! N14 -/
set_option Elab.async false
set_option linter.all false
set_option maxRecDepth 100000
set_option maxHeartbeats 1000000
/-! books that are drawn -/
namespace M
open PySem Dl G
open L2 (atI ixN)
theorem CardOk.perm {n p : Int} {c d : List Int} (h : CardOk n p c) (pm : d.Perm c) : CardOk n p d := ⟨pm.symm.nodup h.1, fun a ha => h.2 a (pm.subset ha)⟩
theorem CardOk.sub {n p : Int} {c d : List Int} (h : CardOk n p c) (s : d.Sublist c) : CardOk n p d := ⟨h.1.sublist s, fun a ha => h.2 a (s.subset ha)⟩
theorem others_ok (n : Nat) (p : Int) : CardOk n p ((rangeI 0 (n : Int)).filter fun o => !decide (o = p)) := by
  refine ⟨(rng_nodup n).sublist List.filter_sublist, fun a ha => ?_⟩
  rw [List.mem_filter, mem_rng] at ha
  exact ⟨ha.1.1, ha.1.2, by simpa using ha.2⟩
theorem cut_sub (xs : List Int) (a b : Option Int) : (cut xs a b).Sublist xs := by
  unfold cut
  exact (List.take_sublist ..).trans (List.drop_sublist ..)
theorem build_loop {s : List Int} {n : Nat} {f : Int → (List Int) × (List (List Int)) → Option (Ctl ((List Int) × (List (List Int))) Unit)} (hs : S3 s) (h0 : 1 ≤ n) (hn : n ≤ 16)
    (st : ∀ p s b, 0 ≤ p → p < (n : Int) → S3 s → b.length ≤ 100 → ∃ c s', f p (s, b) = some (.nx (s', b ++ [c])) ∧ CardOk n p c ∧ S3 s') : ∃ b s', forL f (rangeI 0 (n : Int)) (s, []) = some (.nx (s', b)) ∧ BookOk b ∧ b.length = n ∧ S3 s' := by
  obtain ⟨⟨s', b⟩, e, g, bl, bk⟩ := for_inv (τ := Unit) (ρ := List Int × List (List Int)) (xs := rangeI 0 (n : Int)) (r := (s, [])) (f := f) (fun i r => S3 r.1 ∧ r.2.length = i ∧ ∀ p, p < i → CardOk n p (r.2.getD p [])) ⟨hs, rfl, fun p hp => absurd hp (Nat.not_lt_zero _)⟩ (by
    rintro i x ⟨s, b⟩ hx ⟨g, bl, bk⟩
    obtain ⟨rfl, hi⟩ := rng_get hx
    simp only at bl bk
    obtain ⟨c, s', e, ok, g'⟩ := st (i : Int) s b (by omega) (by omega) g (by omega)
    refine ⟨(s', b ++ [c]), e, g', by simp [bl], fun p hp => ?_⟩
    by_cases hlt : p < b.length
    · have := bk p (by omega)
      rw [List.getD_eq_getElem?_getD] at this ⊢
      rw [List.getElem?_append_left hlt]
      exact this
    · have : p = i := by omega
      subst this
      show CardOk _ _ ((b ++ [c]).getD p [])
      rw [List.getD_eq_getElem?_getD, List.getElem?_append_right (by omega), show p - b.length = 0 by omega]
      exact ok)
  rw [rng_len, Int.toNat_natCast] at bl bk
  simp only at bl bk
  refine ⟨b, s', e, ⟨by omega, by omega, fun p hp => ?_⟩, bl, g⟩
  rw [bl] at hp ⊢
  exact bk p hp
theorem appL {xs : List (List Int)} {x : List Int} (h : xs.length ≤ 100) : appO xs x = some (xs ++ [x]) := app_ (by omega)
theorem wild {s : List Int} {n : Nat} (hs : S3 s) (h0 : 1 ≤ n) (hn : n ≤ 16) : ∃ b s', m__law_wild (s, (n : Int)) = some (b, s') ∧ BookOk b ∧ b.length = n ∧ S3 s' := by
  unfold m__law_wild
  dsimp only
  refine Exists.imp (fun b h => Exists.imp (fun s' h => And.imp (fun h => (congrArg (fun z => Option.bind z _) (rng (n := (n : Int)) (by omega) (by omega))).trans h) id h) h) ?_
  obtain ⟨b, s', e, h⟩ := build_loop (n := n) (f := fun (place9 : Int) (rr : (List Int) × (List (List Int))) => (match rr with | (state6, book7) => ((rngO (0 : Int) (n : Int)).bind fun xs10 =>
    (lcO (fun (other : Int) (rr : Unit) => match rr with | () => some ((!decide (other = place9)), ())) (fun (other : Int) (rr : Unit) => match rr with | () => some (other, ())) xs10 ()).bind fun (ys12, _) =>
    (m__law_shuffled (state6, ys12)).bind fun (r14, state16) =>
    (m__law_pick (state16, (n : Int))).bind fun (r20, state22) =>
    (appO book7 (cut r14 none (some r20))).bind fun book23 =>
    some (.nx (state22, book23))) : Option (Ctl ((List Int) × (List (List Int))) Unit))) hs h0 hn fun p s b p0 p1 g bl => by
    have ok := others_ok n p
    have ol := len_of_ok ok
    obtain ⟨sh, s1, e1, pm, g1⟩ := shuffled (ps := (rangeI 0 (n : Int)).filter fun o => !decide (o = p)) g (by omega)
    obtain ⟨d, s2, e2, d0, d1, g2⟩ := pick g1 (many := (n : Int)) (by omega) (by omega)
    refine ⟨cut sh none (some d), s2, ?_, (ok.perm pm).sub (cut_sub ..), g2⟩
    dsimp only
    rw [rng (by omega) (by omega), Option.bind_some, lcO_pure (fun o => !decide (o = p)) id (by rw [rng_len]; omega) (fun _ _ => rfl) fun _ _ _ => rfl, Option.bind_some]
    dsimp only
    rw [List.map_id, e1, Option.bind_some]
    dsimp only
    rw [e2, Option.bind_some]
    dsimp only
    rw [appL bl, Option.bind_some]
  refine ⟨b, s', ?_, h⟩
  refine (congrArg (finK _ _) e).trans ?_
  rfl
theorem long {s : List Int} {n : Nat} (hs : S3 s) (h0 : 1 ≤ n) (hn : n ≤ 16) : ∃ b s', m__law_long (s, (n : Int)) = some (b, s') ∧ BookOk b ∧ b.length = n ∧ S3 s' := by
  unfold m__law_long
  dsimp only
  refine Exists.imp (fun b h => Exists.imp (fun s' h => And.imp (fun h => (congrArg (fun z => Option.bind z _) (rng (n := (n : Int)) (by omega) (by omega))).trans h) id h) h) ?_
  obtain ⟨b, s', e, h⟩ := build_loop (n := n) (f := fun (place9 : Int) (rr : (List Int) × (List (List Int))) => (match rr with | (state6, book7) => ((rngO (0 : Int) (n : Int)).bind fun xs10 =>
    (lcO (fun (other : Int) (rr : Unit) => match rr with | () => some ((!decide (other = place9)), ())) (fun (other : Int) (rr : Unit) => match rr with | () => some (other, ())) xs10 ()).bind fun (ys12, _) =>
    (m__law_shuffled (state6, ys12)).bind fun (r14, state16) =>
    (m__law_pick (state16, (3 : Int))).bind fun (r20, state22) =>
    (appO book7 (cut r14 none (some (if (((n : Int) - (1 : Int)) - r20) > (0 : Int) then (((n : Int) - (1 : Int)) - r20) else (0 : Int))))).bind fun book23 =>
    some (.nx (state22, book23))) : Option (Ctl ((List Int) × (List (List Int))) Unit))) hs h0 hn fun p s b p0 p1 g bl => by
    have ok := others_ok n p
    have ol := len_of_ok ok
    obtain ⟨sh, s1, e1, pm, g1⟩ := shuffled (ps := (rangeI 0 (n : Int)).filter fun o => !decide (o = p)) g (by omega)
    obtain ⟨d, s2, e2, d0, d1, g2⟩ := pick g1 (many := 3) (by omega) (by omega)
    refine ⟨cut sh none (some (if (((n : Int) - (1 : Int)) - d) > (0 : Int) then (((n : Int) - (1 : Int)) - d) else (0 : Int))), s2, ?_, (ok.perm pm).sub (cut_sub ..), g2⟩
    dsimp only
    rw [rng (by omega) (by omega), Option.bind_some, lcO_pure (fun o => !decide (o = p)) id (by rw [rng_len]; omega) (fun _ _ => rfl) fun _ _ _ => rfl, Option.bind_some]
    dsimp only
    rw [List.map_id, e1, Option.bind_some]
    dsimp only
    rw [e2, Option.bind_some]
    dsimp only
    rw [appL bl, Option.bind_some]
  refine ⟨b, s', ?_, h⟩
  refine (congrArg (finK _ _) e).trans ?_
  rfl
theorem bk_set {b : List (List Int)} {k : Nat} {c : List Int} (h : BookOk b) (hc : CardOk b.length k c) : BookOk (b.set k c) ∧ (b.set k c).length = b.length := by
  have hl : (b.set k c).length = b.length := List.length_set
  refine ⟨⟨by rw [hl]; exact h.1, by rw [hl]; exact h.2.1, fun p hp => ?_⟩, hl⟩
  rw [hl] at hp ⊢
  by_cases e : k = p
  · subst e
    rw [List.getD_eq_getElem?_getD, List.getElem?_set_self hp]
    exact hc
  · rw [List.getD_eq_getElem?_getD, List.getElem?_set_ne e, ← List.getD_eq_getElem?_getD]
    exact h.2.2 p hp
theorem bend {s : List Int} {b : List (List Int)} (hs : S3 s) (h : BookOk b) : ∃ b' s', m__law_bend (s, b) = some ((), s', b') ∧ BookOk b' ∧ b'.length = b.length ∧ S3 s' := by
  have b1 := h.1
  have b2 := h.2.1
  obtain ⟨k, s1, e1, k0, k1, g1⟩ := pick hs (many := (b.length : Int)) (by omega) (by omega)
  obtain ⟨r1, ok⟩ := bk_row h k0 k1
  have rl := bk_len h (p := k.toNat) (by omega)
  obtain ⟨w, s2, e2, w0, w1, g2⟩ := pick g1 (many := 4) (by decide) (by decide)
  unfold m__law_bend
  dsimp only
  rw [e1, Option.bind_some]
  dsimp only
  rw [row_at k0 k1, Option.bind_some]
  dsimp only
  generalize hrow : b.getD k.toNat [] = row at *
  rw [rng (by omega) (by omega), Option.bind_some, lcO_pure (fun o => (!decide (o = k)) && (!decide (o ∈ row))) id (by rw [rng_len]; omega) (fun _ _ => rfl) fun _ _ _ => rfl, Option.bind_some]
  dsimp only
  rw [List.map_id, e2, Option.bind_some]
  dsimp only
  generalize hleft : (rangeI 0 (b.length : Int)).filter (fun o => (!decide (o = k)) && (!decide (o ∈ row))) = left
  have lm : ∀ a ∈ left, 0 ≤ a ∧ a < (b.length : Int) ∧ a ≠ k ∧ a ∉ row := fun a ha => by
    rw [← hleft, List.mem_filter, mem_rng] at ha
    obtain ⟨⟨x, y⟩, z⟩ := ha
    simp at z
    exact ⟨x, y, z.1, z.2⟩
  have ll : left.length ≤ 16 := by
    rw [← hleft]
    have := List.length_filter_le (fun o => (!decide (o = k)) && (!decide (o ∈ row))) (rangeI 0 (b.length : Int))
    rw [rng_len] at this
    omega
  have kk : CardOk b.length (k.toNat : Int) row := by rw [Int.toNat_of_nonneg k0]; exact ok
  by_cases c1 : w < 2 ∧ (1 : Int) < (row.length : Int)
  · rw [decide_eq_true c1.1, decide_eq_true c1.2, Bool.true_and, cond_true]
    obtain ⟨d, s3, e3, d0, d1, g3⟩ := pick g2 (many := (row.length : Int) - 1) (by omega) (by omega)
    obtain ⟨y, p1, p2⟩ := pop_at (xs := row) (i := d + 1) (by omega) (by omega) (by omega)
    have el : (row.eraseIdx (d + 1).toNat).length ≤ row.length := List.length_eraseIdx_le ..
    rw [e3, Option.bind_some]
    dsimp only
    rw [p1, Option.bind_some]
    dsimp only
    rw [ins_ y d0 (by omega) (by omega), Option.bind_some, List.set_set]
    obtain ⟨q1, q2⟩ := bk_set h (k := k.toNat) (kk.perm ((ins_perm d.toNat y).trans (erase_perm p2)))
    exact ⟨_, s3, rfl, q1, q2, g3⟩
  have n1 : (decide (w < 2) && decide ((1 : Int) < (row.length : Int))) = false := by
    rw [Bool.and_eq_false_iff, decide_eq_false_iff_not, decide_eq_false_iff_not]
    omega
  rw [n1, cond_false]
  by_cases c2 : w = 2 ∧ (0 : Int) < (row.length : Int)
  · rw [decide_eq_true c2.1, decide_eq_true c2.2, Bool.true_and, cond_true]
    obtain ⟨L, t, hL, p1⟩ := pop_last (xs := row) (fun z => by rw [z] at c2; simp at c2)
    rw [p1, Option.bind_some]
    obtain ⟨q1, q2⟩ := bk_set h (k := k.toNat) (kk.sub (d := L) (by rw [hL]; exact List.sublist_append_left ..))
    exact ⟨_, s2, rfl, q1, q2, g2⟩
  have n2 : (decide (w = 2) && decide ((0 : Int) < (row.length : Int))) = false := by
    rw [Bool.and_eq_false_iff, decide_eq_false_iff_not, decide_eq_false_iff_not]
    omega
  rw [n2, cond_false]
  by_cases c3 : (0 : Int) < (left.length : Int)
  · rw [decide_eq_true c3, cond_true]
    obtain ⟨d, s3, e3, d0, d1, g3⟩ := pick g2 (many := (row.length : Int) + 1) (by omega) (by omega)
    obtain ⟨f, s4, e4, f0, f1, g4⟩ := pick g3 (many := (left.length : Int)) c3 (by omega)
    obtain ⟨z, z1, z2⟩ := at_ (xs := left) f0 f1
    have hz := lm z (List.mem_of_getElem? z2)
    rw [e3, Option.bind_some]
    dsimp only
    rw [e4, Option.bind_some]
    dsimp only
    rw [z1, Option.bind_some, ins_ z d0 (by omega) (by omega), Option.bind_some]
    have okz : CardOk b.length (k.toNat : Int) (z :: row) := by
      rw [Int.toNat_of_nonneg k0]
      refine ⟨List.nodup_cons.mpr ⟨hz.2.2.2, ok.1⟩, fun a ha => ?_⟩
      rcases List.mem_cons.mp ha with rfl | ha
      · exact ⟨hz.1, hz.2.1, hz.2.2.1⟩
      · exact ok.2 a ha
    obtain ⟨q1, q2⟩ := bk_set h (k := k.toNat) (okz.perm (ins_perm d.toNat z))
    exact ⟨_, s4, rfl, q1, q2, g4⟩
  rw [decide_eq_false c3, cond_false]
  by_cases c4 : (1 : Int) < (row.length : Int)
  · rw [decide_eq_true c4, cond_true]
    obtain ⟨d, s3, e3, d0, d1, g3⟩ := pick g2 (many := (row.length : Int) - 1) (by omega) (by omega)
    obtain ⟨y, p1, p2⟩ := pop_at (xs := row) (i := d) d0 (by omega) (by omega)
    have el : (row.eraseIdx d.toNat).length ≤ row.length := List.length_eraseIdx_le ..
    rw [e3, Option.bind_some]
    dsimp only
    rw [p1, Option.bind_some]
    dsimp only
    rw [app_ (by omega), Option.bind_some, List.set_set]
    obtain ⟨q1, q2⟩ := bk_set h (k := k.toNat) (kk.perm ((List.perm_append_singleton y _).trans (erase_perm p2)))
    exact ⟨_, s3, rfl, q1, q2, g3⟩
  · rw [decide_eq_false c4, cond_false]
    exact ⟨b, s2, rfl, h, rfl, g2⟩
theorem book {s : List Int} {n : Nat} (hs : S3 s) (h0 : 1 ≤ n) (hn : n ≤ 16) : ∃ b s', m__law_book (s, (n : Int)) = some (b, s') ∧ BookOk b ∧ b.length = n := by
  obtain ⟨d, s1, e1, d0, d1, g1⟩ := pick hs (many := 6) (by decide) (by decide)
  unfold m__law_book
  dsimp only
  rw [e1, Option.bind_some]
  dsimp only
  by_cases c0 : d = 0
  · obtain ⟨b, s2, e2, q1, q2, _⟩ := wild g1 h0 hn
    rw [decide_eq_true c0, cond_true, e2]
    exact ⟨b, s2, rfl, q1, q2⟩
  rw [decide_eq_false c0, cond_false]
  by_cases c1 : d = 1
  · obtain ⟨b, s2, e2, q1, q2, _⟩ := long g1 h0 hn
    rw [decide_eq_true c1, cond_true, e2]
    exact ⟨b, s2, rfl, q1, q2⟩
  rw [decide_eq_false c1, cond_false]
  obtain ⟨L, s2, e2, fam, up, l1, l2, g2⟩ := any_nest g1 h0 hn
  obtain ⟨b, e3, q1, q2⟩ := cards_ h0 hn fam up l1 l2
  obtain ⟨f, s3, e4, f0, f1, g3⟩ := pick g2 (many := 4) (by decide) (by decide)
  obtain ⟨z, z1, z2⟩ := at_ (xs := [(0 : Int), (1 : Int), ((1 : Int) + f), (0 : Int)]) (i := d - 2) (by omega) (by simp; omega)
  have hz : 0 ≤ z ∧ z ≤ 4 := by
    have := List.mem_of_getElem? z2
    simp only [List.mem_cons, List.not_mem_nil, or_false] at this
    rcases this with rfl | rfl | rfl | rfl <;> omega
  rw [e2, Option.bind_some]
  dsimp only
  rw [e3, Option.bind_some, e4, Option.bind_some]
  dsimp only
  rw [z1, Option.bind_some, rng hz.1 (by omega), Option.bind_some]
  obtain ⟨⟨s5, b5⟩, e5, _, r1, r2⟩ := for_inv (τ := Unit) (ρ := List Int × List (List Int)) (xs := rangeI 0 z) (r := (s3, b)) (f := fun (turn38 : Int) (rr : (List Int) × (List (List Int))) => (match rr with | (state35, book36) => ((m__law_bend (state35, book36)).bind fun (r39, state41, book42) =>
    some (.nx (state41, book42))) : Option (Ctl ((List Int) × (List (List Int))) Unit))) (fun _ r => S3 r.1 ∧ BookOk r.2 ∧ r.2.length = n) ⟨g3, q1, q2⟩ (by
    rintro i x ⟨s, b⟩ _ ⟨g, q1, q2⟩
    simp only at q1 q2
    obtain ⟨b', s', e, r1, r2, g'⟩ := bend g q1
    exact ⟨(s', b'), by dsimp only; rw [e]; rfl, g', r1, by show b'.length = n; omega⟩)
  refine ⟨b5, s5, ?_, r1, r2⟩
  refine (congrArg (finK _ _) e5).trans ?_
  rfl
end M

/-! N15 -/
set_option Elab.async false
set_option linter.all false
set_option maxRecDepth 100000
set_option maxHeartbeats 1000000
/-! refusals, and all of it -/
namespace M
open PySem Dl G
open L2 (atI ixN)
theorem bad_book {s : List Int} {b : List (List Int)} (hs : S3 s) (h : BookOk b) : ∃ (k : Nat) (w : List (List Int)) (s' : List Int), m__law_bad_book (s, b) = some (((k : Int), w), s') ∧ m_check_book w = some (.error (.one "BadBook" "place" (k : Int))) ∧ S3 s' := by
  have b1 := h.1
  have b2 := h.2.1
  obtain ⟨k, s1, e1, k0, k1, g1⟩ := pick hs (many := (b.length : Int)) (by omega) (by omega)
  obtain ⟨k, rfl⟩ : ∃ j : Nat, k = (j : Int) := ⟨k.toNat, by omega⟩
  have hkl : k < b.length := by omega
  obtain ⟨r1, ok⟩ := bk_row h k0 k1
  rw [Int.toNat_natCast] at ok r1
  have rl := bk_len h hkl
  obtain ⟨kd, s2, e2, w0, w1, g2⟩ := pick g1 (many := 3) (by decide) (by decide)
  generalize hrow : b.getD k [] = row at *
  -- the entry that is put in
  have mid1 : ∃ s3 e, (cond (decide (kd = (1 : Int))) ((m__law_stranger (s2, (b.length : Int))).bind fun (r40, state42) =>
      some (state42, r40)) (some (s2, (k : Int)))) = some (s3, e) ∧ S3 s3 ∧ (e = (k : Int) ∨ ¬ (0 ≤ e ∧ e < (b.length : Int))) := by
    by_cases hd : kd = 1
    · obtain ⟨z, s3, e3, hz, g3⟩ := stranger (n := (b.length : Int)) g2 (by omega)
      rw [decide_eq_true hd, cond_true, e3, Option.bind_some]
      exact ⟨s3, z, rfl, g3, .inr hz⟩
    · rw [decide_eq_false hd, cond_false]
      exact ⟨s2, _, rfl, g2, .inl rfl⟩
  obtain ⟨s3, e, e3, g3, he⟩ := mid1
  have mid2 : ∃ s4 e', (cond ((decide (kd = (2 : Int))) && (decide ((0 : Int) < (row.length : Int)))) ((m__law_pick (s3, (row.length : Int))).bind fun (r51, state53) =>
      (atI row r51).bind fun t54 =>
      some (state53, t54)) (some (s3, e))) = some (s4, e') ∧ S3 s4 ∧ (e' = (k : Int) ∨ ¬ (0 ≤ e' ∧ e' < (b.length : Int)) ∨ e' ∈ row) := by
    by_cases hd : kd = 2 ∧ (0 : Int) < (row.length : Int)
    · obtain ⟨d, s4, e4, d0, d1, g4⟩ := pick g3 (many := (row.length : Int)) hd.2 (by omega)
      obtain ⟨z, z1, z2⟩ := at_ (xs := row) d0 d1
      rw [decide_eq_true hd.1, decide_eq_true hd.2, Bool.true_and, cond_true, e4, Option.bind_some]
      dsimp only
      rw [z1, Option.bind_some]
      exact ⟨s4, z, rfl, g4, .inr (.inr (List.mem_of_getElem? z2))⟩
    · have : (decide (kd = 2) && decide ((0 : Int) < (row.length : Int))) = false := by
        rw [Bool.and_eq_false_iff, decide_eq_false_iff_not, decide_eq_false_iff_not]
        omega
      rw [this, cond_false]
      refine ⟨s3, e, rfl, g3, ?_⟩
      rcases he with z | z
      · exact .inl z
      · exact .inr (.inl z)
  obtain ⟨s4, e', e4, g4, he'⟩ := mid2
  obtain ⟨d, s5, e5, d0, d1, g5⟩ := pick g4 (many := (row.length : Int) + 1) (by omega) (by omega)
  have pm := ins_perm (xs := row) d.toNat e'
  have bad : ¬ CardOk b.length (k : Int) (row.take d.toNat ++ [e'] ++ row.drop d.toNat) := fun c => by
    have hm : e' ∈ row.take d.toNat ++ [e'] ++ row.drop d.toNat := pm.symm.subset List.mem_cons_self
    have hr := c.2 e' hm
    rcases he' with z | z | z
    · exact hr.2.2 z
    · exact z ⟨hr.1, hr.2.1⟩
    · exact (List.nodup_cons.mp (pm.nodup c.1)).1 z
  generalize hrow2 : row.take d.toNat ++ [e'] ++ row.drop d.toNat = row2 at *
  have r2l : row2.length ≤ 20 := by rw [pm.length_eq, List.length_cons]; omega
  -- the book with this card
  have w1l : (b.set k row2).length = b.length := List.length_set
  have w1g : ∀ p, p < b.length → (b.set k row2).getD p [] = if p = k then row2 else b.getD p [] := fun p hp => by
    by_cases e : k = p
    · subst e
      rw [if_pos rfl, List.getD_eq_getElem?_getD, List.getElem?_set_self hp]
      rfl
    · rw [if_neg (fun z => e z.symm), List.getD_eq_getElem?_getD, List.getElem?_set_ne e, ← List.getD_eq_getElem?_getD]
  have chk : ∀ w : List (List Int), w.length = b.length → w.getD k [] = row2 → (∀ p, p < k → w.getD p [] = b.getD p []) → (∀ p, p < b.length → (w.getD p []).length ≤ 30) → m_check_book w = some (.error (.one "BadBook" "place" (k : Int))) := fun w wl wk wp wb => by
    refine check_wrong (by omega) (by omega) (fun p hp => by have := wb p (by omega); omega) (by omega) ?_ fun p hp => ?_
    · rw [wl, wk]; exact bad
    · rw [wl, wp p hp]; exact h.2.2 p (by omega)
  have hgl : ∀ p, p < b.length → ((b.set k row2).getD p []).length ≤ 20 := fun p hp => by
    rw [w1g p hp]
    split
    · exact r2l
    · have := bk_len h hp; omega
  unfold m__law_bad_book
  dsimp only
  rw [copy_ (by omega), Option.bind_some, e1, Option.bind_some]
  dsimp only
  rw [row_at k0 k1, Option.bind_some]
  dsimp only
  rw [Int.toNat_natCast, hrow, e2, Option.bind_some]
  dsimp only
  rw [e3, Option.bind_some]
  dsimp only
  rw [e4, Option.bind_some]
  dsimp only
  rw [e5, Option.bind_some]
  dsimp only
  rw [ins_ e' d0 (by omega) (by omega), Option.bind_some, hrow2]
  by_cases c1 : (k : Int) + 1 < (b.length : Int)
  · obtain ⟨f, s6, e6, _, _, g6⟩ := pick g5 (many := 2) (by decide) (by decide)
    rw [decide_eq_true c1, cond_true, e6, Option.bind_some]
    dsimp only
    rw [Option.bind_some]
    dsimp only
    by_cases hf : f = 0
    · have hj : 0 ≤ (b.length : Int) - 1 ∧ (b.length : Int) - 1 < ((b.set k row2).length : Int) := by omega
      rw [decide_eq_true hf, cond_true, row_at hj.1 hj.2, Option.bind_some]
      dsimp only
      have hjn : ((b.length : Int) - 1).toNat = b.length - 1 := by omega
      rw [hjn, app_ (by have := hgl (b.length - 1) (by omega); omega), Option.bind_some, Option.bind_some]
      refine ⟨k, _, s6, rfl, chk _ (by rw [List.length_set]; exact w1l) ?_ (fun p hp => ?_) (fun p hp => ?_), g6⟩
      · rw [List.getD_eq_getElem?_getD, List.getElem?_set_ne (by omega), ← List.getD_eq_getElem?_getD, w1g k hkl, if_pos rfl]
      · rw [List.getD_eq_getElem?_getD, List.getElem?_set_ne (by omega), ← List.getD_eq_getElem?_getD, w1g p (by omega), if_neg (by omega)]
      · by_cases e : b.length - 1 = p
        · subst e
          rw [List.getD_eq_getElem?_getD, List.getElem?_set_self (by omega), Option.getD_some, List.length_append, List.length_singleton]
          have := hgl (b.length - 1) hp
          omega
        · rw [List.getD_eq_getElem?_getD, List.getElem?_set_ne e, ← List.getD_eq_getElem?_getD]
          have := hgl p hp
          omega
    · rw [decide_eq_false hf, cond_false, Option.bind_some]
      exact ⟨k, _, s6, rfl, chk _ w1l (by rw [w1g k hkl, if_pos rfl]) (fun p hp => by rw [w1g p (by omega), if_neg (by omega)]) (fun p hp => by have := hgl p hp; omega), g6⟩
  · rw [decide_eq_false c1, cond_false, Option.bind_some]
    dsimp only
    rw [cond_false, Option.bind_some]
    exact ⟨k, _, s5, rfl, chk _ w1l (by rw [w1g k hkl, if_pos rfl]) (fun p hp => by rw [w1g p (by omega), if_neg (by omega)]) (fun p hp => by have := hgl p hp; omega), g5⟩
/-- a list with a wrong entry: the first wrong one is told -/
theorem wrong_at {n : Int} {pre post : List Int} {w : Int} (h0 : 1 ≤ n) (h1 : n ≤ 16) (hl : pre.length + post.length ≤ 1000) (nd : pre.Nodup) (rg : ∀ a ∈ pre, 0 ≤ a ∧ a < n) (hw : ¬ (0 ≤ w ∧ w < n) ∨ w ∈ pre) : m_check_places (n, pre ++ [w] ++ post) = some (.error (.one "BadPlace" "place" w)) := by
  have ll : (pre ++ [w] ++ post).length = pre.length + 1 + post.length := by rw [List.length_append, List.length_append, List.length_singleton]
  rw [check_places _ h0 h1 (by omega)]
  have hi : pre.length < (pre ++ [w] ++ post).length := by omega
  have gw : (pre ++ [w] ++ post)[pre.length] = w := by
    rw [List.getElem_append_left (by simp), List.getElem_append_right (Nat.le_refl _)]
    simp
  have tk : (pre ++ [w] ++ post).take pre.length = pre := by
    rw [List.append_assoc, List.take_left']
    rfl
  have hf : (List.range (pre ++ [w] ++ post).length).find? (badPl n (pre ++ [w] ++ post)) = some pre.length := by
    rw [List.find?_eq_some_iff_getElem]
    refine ⟨?_, pre.length, by rw [List.length_range]; exact hi, by rw [List.getElem_range], fun j hj => ?_⟩
    · unfold badPl
      rw [getD_at hi, gw, tk]
      rcases hw with z | z
      · have : (decide (0 ≤ w) && decide (w < n)) = false := by
          rw [Bool.and_eq_false_iff, decide_eq_false_iff_not, decide_eq_false_iff_not]
          omega
        rw [this]
        rfl
      · rw [decide_eq_true z, Bool.or_true]
    · rw [List.getElem_range]
      have hj2 : j < (pre ++ [w] ++ post).length := by omega
      have gj : (pre ++ [w] ++ post)[j] = pre[j] := by
        rw [List.getElem_append_left (by simp; omega), List.getElem_append_left hj]
      have tj : (pre ++ [w] ++ post).take j = pre.take j := by
        rw [List.append_assoc, List.take_append_of_le_length (by omega)]
      have := rg _ (List.getElem_mem hj)
      unfold badPl
      rw [getD_at hj2, gj, tj, decide_eq_true this.1, decide_eq_true this.2, decide_eq_false (nodup_take.mp nd j hj)]
      rfl
  rw [hf]
  show some (Except.error (Xc.one "BadPlace" "place" ((pre ++ [w] ++ post).getD pre.length 0))) = _
  rw [getD_at hi, gw]
theorem bad_list {s row : List Int} {n : Nat} (hs : S3 s) (h0 : 1 ≤ n) (hn : n ≤ 16) (nd : row.Nodup) (rg : ∀ a ∈ row, 0 ≤ a ∧ a < (n : Int)) : ∃ w l s', m__law_bad_list (s, row, (n : Int)) = some ((w, l), s') ∧ m_check_places ((n : Int), l) = some (.error (.one "BadPlace" "place" w)) ∧ S3 s' := by
  have rl := places_le nd rg
  obtain ⟨d, s1, e1, d0, d1, g1⟩ := pick hs (many := (row.length : Int) + 1) (by omega) (by omega)
  obtain ⟨d, rfl⟩ : ∃ j : Nat, d = (j : Int) := ⟨d.toNat, by omega⟩
  obtain ⟨z, s2, e2, hz, g2⟩ := stranger (n := (n : Int)) g1 (by omega)
  have mid0 : ∃ b s3, (cond (decide ((0 : Int) < (d : Int))) ((m__law_pick (s2, (3 : Int))).bind fun (r13, state15) => some ((decide (r13 = (0 : Int))), state15)) (some (false, s2))) = some (b, s3) ∧ S3 s3 ∧ (b = true → (0 : Int) < (d : Int)) := by
    by_cases hd : (0 : Int) < (d : Int)
    · obtain ⟨f, s3, e3, _, _, g3⟩ := pick g2 (many := 3) (by decide) (by decide)
      rw [decide_eq_true hd, cond_true, e3, Option.bind_some]
      exact ⟨_, s3, rfl, g3, fun _ => hd⟩
    · rw [decide_eq_false hd, cond_false]
      exact ⟨false, s2, rfl, g2, fun h => nomatch h⟩
  obtain ⟨b, s3, e3, g3, hb⟩ := mid0
  have mid : ∃ s4 w, (cond b ((m__law_pick (s3, (d : Int))).bind fun (r22, state24) =>
      (atI row r22).bind fun t25 =>
      some (state24, t25)) (some (s3, z))) = some (s4, w) ∧ S3 s4 ∧ (¬ (0 ≤ w ∧ w < (n : Int)) ∨ w ∈ row.take d) := by
    cases b with
    | true =>
      obtain ⟨q, s4, e4, q0, q1, g4⟩ := pick g3 (many := (d : Int)) (hb rfl) (by omega)
      obtain ⟨y, y1, y2⟩ := at_ (xs := row) (i := q) q0 (by omega)
      rw [cond_true, e4, Option.bind_some]
      dsimp only
      rw [y1, Option.bind_some]
      refine ⟨s4, y, rfl, g4, .inr ?_⟩
      obtain ⟨hq, hy⟩ := List.getElem?_eq_some_iff.mp y2
      rw [List.mem_take_iff_getElem]
      exact ⟨q.toNat, by omega, hy⟩
    | false =>
      rw [cond_false]
      exact ⟨s3, z, rfl, g3, .inl hz⟩
  obtain ⟨s4, w, e4, g4, hw⟩ := mid
  obtain ⟨f, s5, e5, _, _, g5⟩ := pick g4 (many := 2) (by decide) (by decide)
  have mid3 : ∃ more : List Int, (cond (decide (f = (0 : Int))) (some [((n : Int) + (30 : Int))]) (some ([] : List Int))) = some more ∧ more.length ≤ 1 := by
    by_cases hf : f = 0
    · rw [decide_eq_true hf]; exact ⟨_, rfl, by simp⟩
    · rw [decide_eq_false hf]; exact ⟨_, rfl, by simp⟩
  obtain ⟨more, e6, ml⟩ := mid3
  have fl := List.length_filter_le (fun t : Int => !decide (t = w)) (row.drop d)
  have dl : (row.drop d).length ≤ row.length := by rw [List.length_drop]; omega
  have tl : (row.take d).length ≤ row.length := by rw [List.length_take]; omega
  refine ⟨w, row.take d ++ [w] ++ ((row.drop d).filter (fun t => !decide (t = w)) ++ more), s5, ?_, wrong_at (by omega) (by omega) (by rw [List.length_append]; omega) (nd.sublist (List.take_sublist ..)) (fun a ha => rg a (List.take_subset _ _ ha)) hw, g5⟩
  unfold m__law_bad_list
  dsimp only
  rw [e1, Option.bind_some]
  dsimp only
  rw [e2, Option.bind_some]
  dsimp only
  rw [e3, Option.bind_some]
  dsimp only
  rw [e4, Option.bind_some]
  dsimp only
  rw [e5, Option.bind_some]
  dsimp only
  rw [e6, Option.bind_some, cut_to (by omega), cut_from (by omega), cat1 (by rw [List.length_singleton]; omega), Option.bind_some, lcO_pure (fun t => !decide (t = w)) id (by omega) (fun _ _ => rfl) fun _ _ _ => rfl, Option.bind_some]
  dsimp only
  rw [List.map_id, cat1 (by rw [List.length_append, List.length_singleton]; omega), Option.bind_some, cat1 (by rw [List.length_append, List.length_append, List.length_singleton]; omega), Option.bind_some, List.append_assoc _ _ more]
theorem refused_book {w : List (List Int)} {kept : List Int} {k : Int} (h : m_check_book w = some (.error (.one "BadBook" "place" k))) : m__law_refused (w, kept) = some (tg_book, k) := by
  unfold m__law_refused m_arrows
  dsimp only
  rw [h, Option.bind_some, Option.bind_some]
  rfl
theorem refused_place {b : List (List Int)} {l : List Int} {w : Int} (h : BookOk b) (e : m_check_places ((b.length : Int), l) = some (.error (.one "BadPlace" "place" w))) : m__law_refused (b, l) = some (tg_place, w) := by
  unfold m__law_refused m_arrows
  dsimp only
  rw [check_book h, Option.bind_some]
  dsimp only
  rw [e, Option.bind_some, Option.bind_some]
  rfl
theorem refused_not {b : List (List Int)} {kept shut : List Int} (h : BookOk b) (ap : Apart b.length kept shut) : m__law_refused (b, kept) = some (tg_let, 0) := by
  unfold m__law_refused
  dsimp only
  rw [arrows h ap, Option.bind_some]
theorem refusals_right {s : List Int} {b : List (List Int)} {kept shut : List Int} (hs : S3 s) (h : BookOk b) (ap : Apart b.length kept shut) : ∃ s', m__law_refusals_right (s, b, kept) = some (true, s') := by
  have b1 := h.1
  have b2 := h.2.1
  obtain ⟨k, w, s1, e1, cw, g1⟩ := bad_book hs h
  obtain ⟨x, l, s2, e2, cl, g2⟩ := bad_list (n := b.length) g1 b1 b2 ap.1 ap.2.2.1
  obtain ⟨d, s3, e3, d0, d1, g3⟩ := pick g2 (many := 2) (by decide) (by decide)
  unfold m__law_refusals_right
  dsimp only
  rw [e1, Option.bind_some]
  dsimp only
  rw [e2, Option.bind_some]
  dsimp only
  rw [rng (by decide) (by decide), Option.bind_some, lcO_all (fun _ => ([] : List Int)) (by rw [rng_len]; decide) fun _ _ => rfl, Option.bind_some]
  dsimp only
  rw [e3, Option.bind_some]
  dsimp only
  obtain ⟨z, z1, z2⟩ := at_ (xs := [(rangeI 0 17).map fun _ => ([] : List Int), ([] : List (List Int))]) (i := d) d0 d1
  have hz : m_check_book z = some (.error (.one "BadBook" "place" (-1))) := by
    refine check_size ?_
    have := List.mem_of_getElem? z2
    simp only [List.mem_cons, List.not_mem_nil, or_false] at this
    rcases this with rfl | rfl
    · rw [List.length_map, rng_len]; decide
    · simp
  rw [z1, Option.bind_some, refused_book cw, Option.bind_some, decide_eq_true rfl, Bool.not_true, cond_false, refused_book cw, Option.bind_some, decide_eq_true rfl, Bool.not_true, Option.bind_some, cond_false, refused_book hz, Option.bind_some, decide_eq_true rfl, Bool.not_true, cond_false, copy_ (by omega), Option.bind_some, refused_place h cl, Option.bind_some, decide_eq_true rfl, Bool.not_true, Option.bind_some, cond_false, Option.bind_some, refused_not h ap, Option.bind_some, decide_eq_true rfl]
  exact ⟨s3, rfl⟩
theorem plain (ns : List Int) : m_law ns = some true := by
  obtain ⟨s0, a0, g0⟩ := seed ns 0 (by decide)
  obtain ⟨s1, a1, g1⟩ := seed ns 1 (by decide)
  obtain ⟨s2, a2, g2⟩ := seed ns 2 (by decide)
  obtain ⟨s3, a3, g3⟩ := seed ns 3 (by decide)
  obtain ⟨s4, a4, g4⟩ := seed ns 4 (by decide)
  obtain ⟨s5, a5, g5⟩ := seed ns 5 (by decide)
  obtain ⟨n, s0', b0, n0, n1, _⟩ := size g0 (a := 6) (b := 16) (by decide) (by decide)
  obtain ⟨n, rfl⟩ : ∃ n' : Nat, n = (n' : Int) := ⟨n.toNat, by omega⟩
  obtain ⟨bk, s1', b1, ok, bl⟩ := book (n := n) g1 (by omega) (by omega)
  obtain ⟨kept, s2', b2, sel, _⟩ := few (xs := rangeI 0 (n : Int)) g2 (rng_nodup n) (by rw [rng_len]; omega)
  generalize hsh : (rangeI 0 (n : Int)).filter (fun p => !decide (p ∈ kept)) = shut
  have ap : Apart bk.length kept shut := by
    rw [bl]
    refine ⟨sel.1, by rw [← hsh]; exact (rng_nodup n).sublist List.filter_sublist, fun a ha => mem_rng.mp (sel.2 a ha), fun a ha => ?_, fun a a0 a1 => ?_⟩
    · rw [← hsh, List.mem_filter] at ha
      exact mem_rng.mp ha.1
    · rw [← hsh, List.mem_filter, mem_rng]
      simp [a0, a1]
  have shl := places_le ap.2.1 ap.2.2.2.1
  obtain ⟨ord, s4', b4, pm, g4'⟩ := shuffled (ps := rangeI 0 (n : Int)) g4 (by rw [rng_len]; omega)
  unfold m_law
  dsimp only
  rw [a0, Option.bind_some, b0, Option.bind_some]
  dsimp only
  rw [a1, Option.bind_some, b1, Option.bind_some]
  dsimp only
  rw [a2, Option.bind_some, rng (by omega) (by omega), Option.bind_some, b2, Option.bind_some]
  dsimp only
  rw [Option.bind_some, lcO_pure (fun p => !decide (p ∈ kept)) id (by rw [rng_len]; omega) (fun _ _ => rfl) fun _ _ _ => rfl, Option.bind_some]
  dsimp only
  rw [List.map_id, hsh, arrows_right ok ap, Option.bind_some, Bool.not_true, cond_false, a3, Option.bind_some, a4, Option.bind_some, Option.bind_some, b4, Option.bind_some]
  dsimp only
  obtain ⟨⟨s6, s7⟩, e6, _⟩ := for_inv (τ := Bool) (ρ := List Int × List Int) (xs := cut ord none (some (6 : Int))) (r := (s3, s4')) (f := fun (place59 : Int) (rr : (List Int) × (List Int)) => (match rr with | (news56, grows57) => ((m__law_ahead_right (bk, place59)).bind fun r60 =>
    (cond (!r60) (some (true, grows57)) ((m__law_opens_right (grows57, bk, place59)).bind fun (r62, grows64) => some ((!r62), grows64))).bind fun (b65, grows67) =>
    cond b65 (some (.rt false)) ((cond (decide (place59 ∈ shut)) ((m__law_shuffled (news56, shut)).bind fun (r70, news72) => (m__law_moves_right (news72, bk, r70, place59)).bind fun (r73, news75) => some ((!r73), news75)) (some (false, news56))).bind fun (b76, news78) =>
    cond b76 (some (.rt false)) (some (.nx (news78, grows67))))) : Option (Ctl ((List Int) × (List Int)) Bool))) (fun _ r => S3 r.1 ∧ S3 r.2) ⟨g3, g4'⟩ (by
    rintro i p ⟨sa, sb⟩ hp ⟨ga, gb⟩
    have hm := mem_rng.mp (pm.subset ((cut_sub ..).subset (List.mem_of_getElem? hp)))
    have p1 : p < bk.length := by omega
    obtain ⟨sb', e2, gb'⟩ := opens_right gb ok hm.1 p1
    simp only at ga gb
    by_cases hps : p ∈ shut
    · obtain ⟨sh, sa', e3, pm3, ga'⟩ := shuffled (ps := shut) ga (by omega)
      obtain ⟨sa'', e4, ga''⟩ := moves_right (shut := sh) ga' ok (pm3.symm.nodup ap.2.1) (fun a ha => ap.2.2.2.1 a (pm3.subset ha)) (p := p) (pm3.mem_iff.mpr hps)
      refine ⟨(sa'', sb'), ?_, ga'', gb'⟩
      dsimp only
      rw [ahead_right ok hm.1 p1, Option.bind_some, Bool.not_true, cond_false, e2, Option.bind_some]
      dsimp only
      rw [Option.bind_some]
      dsimp only
      rw [Bool.not_true, cond_false, decide_eq_true hps, cond_true, e3, Option.bind_some]
      dsimp only
      rw [e4, Option.bind_some]
      rfl
    · refine ⟨(sa, sb'), ?_, ga, gb'⟩
      dsimp only
      rw [ahead_right ok hm.1 p1, Option.bind_some, Bool.not_true, cond_false, e2, Option.bind_some]
      dsimp only
      rw [Option.bind_some]
      dsimp only
      rw [Bool.not_true, cond_false, decide_eq_false hps]
      rfl)
  obtain ⟨s8, e8⟩ := refusals_right g5 ok ap
  refine (congrArg (finK _ _) e6).trans ?_
  dsimp only [finK]
  rw [a5, Option.bind_some, e8, Option.bind_some]
end M

/-! H00 -/
set_option Elab.async false
set_option linter.all false
set_option maxRecDepth 100000
set_option maxHeartbeats 0
namespace G
open PySem PySem.Spec PyProof.Rows L2 Dl
def d_check_book : He.DefD := ⟨("check_book", none), "check_book", "check_book", defArgs s_check_book, defBody s_check_book, defScope s_check_book, [], []⟩
def d_is_card : He.DefD := ⟨("is_card", none), "is_card", "is_card", defArgs s_is_card, defBody s_is_card, defScope s_is_card, [], []⟩
def d_check_places : He.DefD := ⟨("check_places", none), "check_places", "check_places", defArgs s_check_places, defBody s_check_places, defScope s_check_places, [], []⟩
def d_first_outside : He.DefD := ⟨("first_outside", none), "first_outside", "first_outside", defArgs s_first_outside, defBody s_first_outside, defScope s_first_outside, [], []⟩
def d_first_open : He.DefD := ⟨("first_open", none), "first_open", "first_open", defArgs s_first_open, defBody s_first_open, defScope s_first_open, [], []⟩
def d_places_ahead : He.DefD := ⟨("places_ahead", none), "places_ahead", "places_ahead", defArgs s_places_ahead, defBody s_places_ahead, defScope s_places_ahead, [], []⟩
def d_arrow_ends : He.DefD := ⟨("arrow_ends", none), "arrow_ends", "arrow_ends", defArgs s_arrow_ends, defBody s_arrow_ends, defScope s_arrow_ends, [], []⟩
def d_arrows : He.DefD := ⟨("arrows", none), "arrows", "arrows", defArgs s_arrows, defBody s_arrows, defScope s_arrows, [], []⟩
def d_lies_in : He.DefD := ⟨("lies_in", none), "lies_in", "lies_in", defArgs s_lies_in, defBody s_lies_in, defScope s_lies_in, [], []⟩
def d_check_news : He.DefD := ⟨("check_news", none), "check_news", "check_news", defArgs s_check_news, defBody s_check_news, defScope s_check_news, [], []⟩
def d_travel : He.DefD := ⟨("travel", none), "travel", "travel", defArgs s_travel, defBody s_travel, defScope s_travel, [], []⟩
def d__law_seed : He.DefD := ⟨("_law_seed", none), "_law_seed", "_law_seed", defArgs s__law_seed, defBody s__law_seed, defScope s__law_seed, [], []⟩
def d__law_pick : He.DefD := ⟨("_law_pick", none), "_law_pick", "_law_pick", defArgs s__law_pick, defBody s__law_pick, defScope s__law_pick, [], []⟩
def d__law_size : He.DefD := ⟨("_law_size", none), "_law_size", "_law_size", defArgs s__law_size, defBody s__law_size, defScope s__law_size, [], []⟩
def d__law_shuffled : He.DefD := ⟨("_law_shuffled", none), "_law_shuffled", "_law_shuffled", defArgs s__law_shuffled, defBody s__law_shuffled, defScope s__law_shuffled, [], []⟩
def d__law_some : He.DefD := ⟨("_law_some", none), "_law_some", "_law_some", defArgs s__law_some, defBody s__law_some, defScope s__law_some, [], []⟩
def d__law_few : He.DefD := ⟨("_law_few", none), "_law_few", "_law_few", defArgs s__law_few, defBody s__law_few, defScope s__law_few, [], []⟩
def d__law_stranger : He.DefD := ⟨("_law_stranger", none), "_law_stranger", "_law_stranger", defArgs s__law_stranger, defBody s__law_stranger, defScope s__law_stranger, [], []⟩
def d__law_whole : He.DefD := ⟨("_law_whole", none), "_law_whole", "_law_whole", defArgs s__law_whole, defBody s__law_whole, defScope s__law_whole, [], []⟩
def d__law_same : He.DefD := ⟨("_law_same", none), "_law_same", "_law_same", defArgs s__law_same, defBody s__law_same, defScope s__law_same, [], []⟩
def d__law_same_rows : He.DefD := ⟨("_law_same_rows", none), "_law_same_rows", "_law_same_rows", defArgs s__law_same_rows, defBody s__law_same_rows, defScope s__law_same_rows, [], []⟩
def d__law_copy : He.DefD := ⟨("_law_copy", none), "_law_copy", "_law_copy", defArgs s__law_copy, defBody s__law_copy, defScope s__law_copy, [], []⟩
def d__law_after : He.DefD := ⟨("_law_after", none), "_law_after", "_law_after", defArgs s__law_after, defBody s__law_after, defScope s__law_after, [], []⟩
def d__law_circle : He.DefD := ⟨("_law_circle", none), "_law_circle", "_law_circle", defArgs s__law_circle, defBody s__law_circle, defScope s__law_circle, [], []⟩
def d__law_union : He.DefD := ⟨("_law_union", none), "_law_union", "_law_union", defArgs s__law_union, defBody s__law_union, defScope s__law_union, [], []⟩
def d__law_normal : He.DefD := ⟨("_law_normal", none), "_law_normal", "_law_normal", defArgs s__law_normal, defBody s__law_normal, defScope s__law_normal, [], []⟩
def d__law_gate : He.DefD := ⟨("_law_gate", none), "_law_gate", "_law_gate", defArgs s__law_gate, defBody s__law_gate, defScope s__law_gate, [], []⟩
def d__law_wound : He.DefD := ⟨("_law_wound", none), "_law_wound", "_law_wound", defArgs s__law_wound, defBody s__law_wound, defScope s__law_wound, [], []⟩
def d__law_parts : He.DefD := ⟨("_law_parts", none), "_law_parts", "_law_parts", defArgs s__law_parts, defBody s__law_parts, defScope s__law_parts, [], []⟩
def d__law_grown : He.DefD := ⟨("_law_grown", none), "_law_grown", "_law_grown", defArgs s__law_grown, defBody s__law_grown, defScope s__law_grown, [], []⟩
def d__law_any_nest : He.DefD := ⟨("_law_any_nest", none), "_law_any_nest", "_law_any_nest", defArgs s__law_any_nest, defBody s__law_any_nest, defScope s__law_any_nest, [], []⟩
def d__law_card : He.DefD := ⟨("_law_card", none), "_law_card", "_law_card", defArgs s__law_card, defBody s__law_card, defScope s__law_card, [], []⟩
def d__law_cards : He.DefD := ⟨("_law_cards", none), "_law_cards", "_law_cards", defArgs s__law_cards, defBody s__law_cards, defScope s__law_cards, [], []⟩
def d__law_wild : He.DefD := ⟨("_law_wild", none), "_law_wild", "_law_wild", defArgs s__law_wild, defBody s__law_wild, defScope s__law_wild, [], []⟩
def d__law_long : He.DefD := ⟨("_law_long", none), "_law_long", "_law_long", defArgs s__law_long, defBody s__law_long, defScope s__law_long, [], []⟩
def d__law_bend : He.DefD := ⟨("_law_bend", none), "_law_bend", "_law_bend", defArgs s__law_bend, defBody s__law_bend, defScope s__law_bend, [], []⟩
def d__law_book : He.DefD := ⟨("_law_book", none), "_law_book", "_law_book", defArgs s__law_book, defBody s__law_book, defScope s__law_book, [], []⟩
def d__law_open : He.DefD := ⟨("_law_open", none), "_law_open", "_law_open", defArgs s__law_open, defBody s__law_open, defScope s__law_open, [], []⟩
def d__law_bad_book : He.DefD := ⟨("_law_bad_book", none), "_law_bad_book", "_law_bad_book", defArgs s__law_bad_book, defBody s__law_bad_book, defScope s__law_bad_book, [], []⟩
def d__law_bad_list : He.DefD := ⟨("_law_bad_list", none), "_law_bad_list", "_law_bad_list", defArgs s__law_bad_list, defBody s__law_bad_list, defScope s__law_bad_list, [], []⟩
def d__law_news : He.DefD := ⟨("_law_news", none), "_law_news", "_law_news", defArgs s__law_news, defBody s__law_news, defScope s__law_news, [], []⟩
def d__law_way : He.DefD := ⟨("_law_way", none), "_law_way", "_law_way", defArgs s__law_way, defBody s__law_way, defScope s__law_way, [], []⟩
def d__law_arrow_row : He.DefD := ⟨("_law_arrow_row", none), "_law_arrow_row", "_law_arrow_row", defArgs s__law_arrow_row, defBody s__law_arrow_row, defScope s__law_arrow_row, [], []⟩
def d__law_arrows_right : He.DefD := ⟨("_law_arrows_right", none), "_law_arrows_right", "_law_arrows_right", defArgs s__law_arrows_right, defBody s__law_arrows_right, defScope s__law_arrows_right, [], []⟩
def d__law_ahead_right : He.DefD := ⟨("_law_ahead_right", none), "_law_ahead_right", "_law_ahead_right", defArgs s__law_ahead_right, defBody s__law_ahead_right, defScope s__law_ahead_right, [], []⟩
def d__law_opens_right : He.DefD := ⟨("_law_opens_right", none), "_law_opens_right", "_law_opens_right", defArgs s__law_opens_right, defBody s__law_opens_right, defScope s__law_opens_right, [], []⟩
def d__law_way_right : He.DefD := ⟨("_law_way_right", none), "_law_way_right", "_law_way_right", defArgs s__law_way_right, defBody s__law_way_right, defScope s__law_way_right, [], []⟩
def d__law_moves_right : He.DefD := ⟨("_law_moves_right", none), "_law_moves_right", "_law_moves_right", defArgs s__law_moves_right, defBody s__law_moves_right, defScope s__law_moves_right, [], []⟩
def d__law_refused : He.DefD := ⟨("_law_refused", none), "_law_refused", "_law_refused", defArgs s__law_refused, defBody s__law_refused, defScope s__law_refused, [], []⟩
def d__law_refusals_right : He.DefD := ⟨("_law_refusals_right", none), "_law_refusals_right", "_law_refusals_right", defArgs s__law_refusals_right, defBody s__law_refusals_right, defScope s__law_refusals_right, [], []⟩
def d_law : He.DefD := ⟨("law", none), "law", "law", defArgs s_law, defBody s_law, defScope s_law, [], []⟩
def fn0 : List He.DefD := [d_check_book, d_is_card, d_check_places, d_first_outside, d_first_open, d_places_ahead, d_arrow_ends, d_arrows, d_lies_in, d_check_news, d_travel, d__law_seed, d__law_pick, d__law_size, d__law_shuffled, d__law_some, d__law_few, d__law_stranger, d__law_whole, d__law_same]
def fn1 : List He.DefD := [d__law_same_rows, d__law_copy, d__law_after, d__law_circle, d__law_union, d__law_normal, d__law_gate, d__law_wound, d__law_parts, d__law_grown, d__law_any_nest, d__law_card, d__law_cards, d__law_wild, d__law_long, d__law_bend, d__law_book, d__law_open, d__law_bad_book, d__law_bad_list]
def fn2 : List He.DefD := [d__law_news, d__law_way, d__law_arrow_row, d__law_arrows_right, d__law_ahead_right, d__law_opens_right, d__law_way_right, d__law_moves_right, d__law_refused, d__law_refusals_right, d_law]
def fn : List He.DefD := fn0 ++ (fn1 ++ (fn2))
def fa0 : List He.Fa := [.glo "check_book", .glo "is_card", .glo "check_places", .glo "first_outside", .glo "first_open", .glo "places_ahead", .glo "arrow_ends", .glo "arrows", .glo "lies_in", .glo "check_news", .glo "travel", .glo "_law_seed", .glo "_law_pick", .glo "_law_size", .glo "_law_shuffled", .glo "_law_some", .glo "_law_few", .glo "_law_stranger", .glo "_law_whole", .glo "_law_same"]
def fa1 : List He.Fa := [.glo "_law_same_rows", .glo "_law_copy", .glo "_law_after", .glo "_law_circle", .glo "_law_union", .glo "_law_normal", .glo "_law_gate", .glo "_law_wound", .glo "_law_parts", .glo "_law_grown", .glo "_law_any_nest", .glo "_law_card", .glo "_law_cards", .glo "_law_wild", .glo "_law_long", .glo "_law_bend", .glo "_law_book", .glo "_law_open", .glo "_law_bad_book", .glo "_law_bad_list"]
def fa2 : List He.Fa := [.glo "_law_news", .glo "_law_way", .glo "_law_arrow_row", .glo "_law_arrows_right", .glo "_law_ahead_right", .glo "_law_opens_right", .glo "_law_way_right", .glo "_law_moves_right", .glo "_law_refused", .glo "_law_refusals_right", .glo "law", .free "abs", .free "all", .free "bool", .free "enumerate", .free "int", .free "isinstance", .free "len", .free "list", .free "max"]
def fa3 : List He.Fa := [.free "min", .free "range", .free "set", .free "sorted", .free "tuple", .int "HOME" (-1), .int "MOST" (16), .glo "TiedError", .glo "BadBook", .glo "BadPlace", .glo "BadSize", .glo "BadNews", .exm "BadBook" "BadBook" true, .exm "BadBook" "BadPlace" false, .exm "BadBook" "TiedError" true, .exm "BadPlace" "BadBook" false, .exm "BadPlace" "BadPlace" true, .exm "BadPlace" "TiedError" true, .exm "BadSize" "BadBook" false, .exm "BadSize" "BadPlace" false]
def fa4 : List He.Fa := [.exm "BadSize" "TiedError" true, .exm "BadNews" "BadBook" false, .exm "BadNews" "BadPlace" false, .exm "BadNews" "TiedError" true]
def fa : List He.Fa := fa0 ++ (fa1 ++ (fa2 ++ (fa3 ++ (fa4))))
def loose0 : List PySem.Str := ["TiedError", "BadBook", "BadPlace", "BadSize", "BadNews", "HOME", "MOST", "check_book", "is_card", "check_places", "first_outside", "first_open", "places_ahead", "arrow_ends", "arrows", "lies_in", "check_news", "travel", "_law_seed", "_law_pick"]
def loose1 : List PySem.Str := ["_law_size", "_law_shuffled", "_law_some", "_law_few", "_law_stranger", "_law_whole", "_law_same", "_law_same_rows", "_law_copy", "_law_after", "_law_circle", "_law_union", "_law_normal", "_law_gate", "_law_wound", "_law_parts", "_law_grown", "_law_any_nest", "_law_card", "_law_cards"]
def loose2 : List PySem.Str := ["_law_wild", "_law_long", "_law_bend", "_law_book", "_law_open", "_law_bad_book", "_law_bad_list", "_law_news", "_law_way", "_law_arrow_row", "_law_arrows_right", "_law_ahead_right", "_law_opens_right", "_law_way_right", "_law_moves_right", "_law_refused", "_law_refusals_right"]
def loose : List PySem.Str := loose0 ++ (loose1 ++ (loose2))
abbrev R : PySem.W.OpenRow := PySem.W.OpenLaw.row PySem.Challenge.rw_ringfolk_k00_arrows_and_first_moves
def fileS : Str := R.prog.main.file
def excB (x : Str) (K : Fg) : Bool := He.eqO (PySem.W.findIn K (.ref (He.ga K x)) "__getattribute__") (some (some (.builtin "BaseException.__getattribute__"))) && (He.eqO (PySem.W.findIn K (.ref (He.ga K x)) "__getattr__") (some none) &&
  (decide (PySem.W.subIn K (.ref (He.ga K x)) (.type "BaseException") = some true) && (PySem.W.hasDictIn K (He.ga K x) && (He.eqO (PySem.W.findIn K (.ref (He.ga K x)) "__class__") (some (some (.builtin "object.__class__"))) &&
  (He.eqO (PySem.W.specialIn K (.builtin "object.__class__") "__get__") (some (some (.builtin "getset_descriptor.__get__"))) && (decide (PySem.W.takesIn K (.builtin "object.__class__") = some true) && decide (PySem.W.mroIn K (He.ga K x) (.type "object") = some true)))))))
theorem excB_ok {x : Str} {K : Fg} (h : excB x K = true) : ExcC K (He.ga K x) := by
  unfold excB at h
  simp only [Bool.and_eq_true] at h
  obtain ⟨h1, h2, h3, h4, h5, h6, h7, h8⟩ := h
  exact ⟨He.eqO_ok h1, He.eqO_ok h2, of_decide_eq_true h3, h4, He.eqO_ok h5, He.eqO_ok h6, of_decide_eq_true h7, of_decide_eq_true h8⟩
def bs0 : List (Fg → Bool) := [Hk.lowB fileS "BadBook" "place", fun K => xfB K (He.ga K "BadBook"), fun K => He.eqO (PySem.W.findIn K (.ref (He.ga K "BadBook")) "place") (some none), Hk.lowB fileS "BadPlace" "place", fun K => xfB K (He.ga K "BadPlace"), fun K => He.eqO (PySem.W.findIn K (.ref (He.ga K "BadPlace")) "place") (some none), Hk.lowB fileS "BadSize" "size", fun K => xfB K (He.ga K "BadSize"), fun K => He.eqO (PySem.W.findIn K (.ref (He.ga K "BadSize")) "size") (some none), Hk.lowB fileS "BadNews" "place", fun K => xfB K (He.ga K "BadNews"), fun K => He.eqO (PySem.W.findIn K (.ref (He.ga K "BadNews")) "place") (some none)]
def bs : List (Fg → Bool) := bs0
def ls : List PySem.Str := ["BadBook", "BadPlace", "BadSize", "BadNews"]
def vs : List Hk.LowT := [Hk.lowV (inClass (top 2) 0), Hk.lowV (inClass (top 3) 0), Hk.lowV (inClass (top 4) 0), Hk.lowV (inClass (top 5) 0)]
abbrev hk : PySem.W.Hook := Hk.hookX 4 fa fn bs ls vs
def ob_ (s : PySem.W.SharedT) : Hk.AlX := Hk.obsXG 4 fa fn bs ls (HandSHeadRun.getT s)
theorem ob_eq (s : PySem.W.SharedT) : ob_ s = hk.obs s.abs := Hk.obsXG_eq (HandSHeadRun.getT_eq s)
theorem run (w : World) : HandSHeadRun.RunEq R (PySem.W.view R.prog [63]) hk ob_ 6000 loose w := by
  intro os
  kernel_rfl
theorem low_BadBook {K : Fg} (c : Hk.SaysX fa fn bs ls vs K) : ∃ fI fd a1, Xi.Low1 R.prog K (He.ga K "BadBook") fI fd "place" a1 :=
  Hk.low_of (a1 := "place") (st := (inClass (top 2) 0)) (file := fileS) (c.l 0 (x := "BadBook") rfl rfl) (c.b 0 (b := Hk.lowB fileS "BadBook" "place") rfl) rfl (by decide +kernel) rfl (by rfl) rfl rfl rfl (by decide +kernel) rfl rfl rfl rfl ⟨_, rfl, rfl⟩ (by decide) (by decide)
    (fun fd h1 h2 h3 h4 s a b => by
      obtain ⟨n1, n2, n3, n4, n5, n6, n7, n8, n9, n10, n11, n12, n13, n14, n15⟩ := fd
      dsimp only at h1 h2 h3 h4
      subst h1 h2 h3 h4
      exact .of_eq (by rfl))
theorem low_BadPlace {K : Fg} (c : Hk.SaysX fa fn bs ls vs K) : ∃ fI fd a1, Xi.Low1 R.prog K (He.ga K "BadPlace") fI fd "place" a1 :=
  Hk.low_of (a1 := "place") (st := (inClass (top 3) 0)) (file := fileS) (c.l 1 (x := "BadPlace") rfl rfl) (c.b 3 (b := Hk.lowB fileS "BadPlace" "place") rfl) rfl (by decide +kernel) rfl (by rfl) rfl rfl rfl (by decide +kernel) rfl rfl rfl rfl ⟨_, rfl, rfl⟩ (by decide) (by decide)
    (fun fd h1 h2 h3 h4 s a b => by
      obtain ⟨n1, n2, n3, n4, n5, n6, n7, n8, n9, n10, n11, n12, n13, n14, n15⟩ := fd
      dsimp only at h1 h2 h3 h4
      subst h1 h2 h3 h4
      exact .of_eq (by rfl))
theorem low_BadSize {K : Fg} (c : Hk.SaysX fa fn bs ls vs K) : ∃ fI fd a1, Xi.Low1 R.prog K (He.ga K "BadSize") fI fd "size" a1 :=
  Hk.low_of (a1 := "size") (st := (inClass (top 4) 0)) (file := fileS) (c.l 2 (x := "BadSize") rfl rfl) (c.b 6 (b := Hk.lowB fileS "BadSize" "size") rfl) rfl (by decide +kernel) rfl (by rfl) rfl rfl rfl (by decide +kernel) rfl rfl rfl rfl ⟨_, rfl, rfl⟩ (by decide) (by decide)
    (fun fd h1 h2 h3 h4 s a b => by
      obtain ⟨n1, n2, n3, n4, n5, n6, n7, n8, n9, n10, n11, n12, n13, n14, n15⟩ := fd
      dsimp only at h1 h2 h3 h4
      subst h1 h2 h3 h4
      exact .of_eq (by rfl))
theorem low_BadNews {K : Fg} (c : Hk.SaysX fa fn bs ls vs K) : ∃ fI fd a1, Xi.Low1 R.prog K (He.ga K "BadNews") fI fd "place" a1 :=
  Hk.low_of (a1 := "place") (st := (inClass (top 5) 0)) (file := fileS) (c.l 3 (x := "BadNews") rfl rfl) (c.b 9 (b := Hk.lowB fileS "BadNews" "place") rfl) rfl (by decide +kernel) rfl (by rfl) rfl rfl rfl (by decide +kernel) rfl rfl rfl rfl ⟨_, rfl, rfl⟩ (by decide) (by decide)
    (fun fd h1 h2 h3 h4 s a b => by
      obtain ⟨n1, n2, n3, n4, n5, n6, n7, n8, n9, n10, n11, n12, n13, n14, n15⟩ := fd
      dsimp only at h1 h2 h3 h4
      subst h1 h2 h3 h4
      exact .of_eq (by rfl))
theorem tx_of {K : Fg} {h : Heap} {mg : Str → Option Value} (X : K.In h) (G : h.Ns mainGlobals mg) (c : Hk.SaysX fa fn bs ls vs K) : Tx R.prog K mg where
  b_abs := He.free_ok X G (c.d.fact 51 (f := .free "abs") rfl)
  b_all := He.free_ok X G (c.d.fact 52 (f := .free "all") rfl)
  b_bool := He.free_ok X G (c.d.fact 53 (f := .free "bool") rfl)
  b_enumerate := He.free_ok X G (c.d.fact 54 (f := .free "enumerate") rfl)
  b_int := He.free_ok X G (c.d.fact 55 (f := .free "int") rfl)
  b_isinstance := He.free_ok X G (c.d.fact 56 (f := .free "isinstance") rfl)
  b_len := He.free_ok X G (c.d.fact 57 (f := .free "len") rfl)
  b_list := He.free_ok X G (c.d.fact 58 (f := .free "list") rfl)
  b_max := He.free_ok X G (c.d.fact 59 (f := .free "max") rfl)
  b_min := He.free_ok X G (c.d.fact 60 (f := .free "min") rfl)
  b_range := He.free_ok X G (c.d.fact 61 (f := .free "range") rfl)
  b_set := He.free_ok X G (c.d.fact 62 (f := .free "set") rfl)
  b_sorted := He.free_ok X G (c.d.fact 63 (f := .free "sorted") rfl)
  b_tuple := He.free_ok X G (c.d.fact 64 (f := .free "tuple") rfl)
  c_HOME := He.int_ok X G (c.d.fact 65 (f := .int "HOME" (-1)) rfl)
  c_MOST := He.int_ok X G (c.d.fact 66 (f := .int "MOST" (16)) rfl)
  f_check_book := c.d.def_ 0 (d := d_check_book) rfl
  m_check_book := He.glo_ok X G (c.d.fact 0 (f := .glo "check_book") rfl)
  f_is_card := c.d.def_ 1 (d := d_is_card) rfl
  m_is_card := He.glo_ok X G (c.d.fact 1 (f := .glo "is_card") rfl)
  f_check_places := c.d.def_ 2 (d := d_check_places) rfl
  m_check_places := He.glo_ok X G (c.d.fact 2 (f := .glo "check_places") rfl)
  f_first_outside := c.d.def_ 3 (d := d_first_outside) rfl
  m_first_outside := He.glo_ok X G (c.d.fact 3 (f := .glo "first_outside") rfl)
  f_first_open := c.d.def_ 4 (d := d_first_open) rfl
  m_first_open := He.glo_ok X G (c.d.fact 4 (f := .glo "first_open") rfl)
  f_places_ahead := c.d.def_ 5 (d := d_places_ahead) rfl
  m_places_ahead := He.glo_ok X G (c.d.fact 5 (f := .glo "places_ahead") rfl)
  f_arrow_ends := c.d.def_ 6 (d := d_arrow_ends) rfl
  m_arrow_ends := He.glo_ok X G (c.d.fact 6 (f := .glo "arrow_ends") rfl)
  f_arrows := c.d.def_ 7 (d := d_arrows) rfl
  m_arrows := He.glo_ok X G (c.d.fact 7 (f := .glo "arrows") rfl)
  f_lies_in := c.d.def_ 8 (d := d_lies_in) rfl
  m_lies_in := He.glo_ok X G (c.d.fact 8 (f := .glo "lies_in") rfl)
  f_check_news := c.d.def_ 9 (d := d_check_news) rfl
  m_check_news := He.glo_ok X G (c.d.fact 9 (f := .glo "check_news") rfl)
  f_travel := c.d.def_ 10 (d := d_travel) rfl
  m_travel := He.glo_ok X G (c.d.fact 10 (f := .glo "travel") rfl)
  f__law_seed := c.d.def_ 11 (d := d__law_seed) rfl
  m__law_seed := He.glo_ok X G (c.d.fact 11 (f := .glo "_law_seed") rfl)
  f__law_pick := c.d.def_ 12 (d := d__law_pick) rfl
  m__law_pick := He.glo_ok X G (c.d.fact 12 (f := .glo "_law_pick") rfl)
  f__law_size := c.d.def_ 13 (d := d__law_size) rfl
  m__law_size := He.glo_ok X G (c.d.fact 13 (f := .glo "_law_size") rfl)
  f__law_shuffled := c.d.def_ 14 (d := d__law_shuffled) rfl
  m__law_shuffled := He.glo_ok X G (c.d.fact 14 (f := .glo "_law_shuffled") rfl)
  f__law_some := c.d.def_ 15 (d := d__law_some) rfl
  m__law_some := He.glo_ok X G (c.d.fact 15 (f := .glo "_law_some") rfl)
  f__law_few := c.d.def_ 16 (d := d__law_few) rfl
  m__law_few := He.glo_ok X G (c.d.fact 16 (f := .glo "_law_few") rfl)
  f__law_stranger := c.d.def_ 17 (d := d__law_stranger) rfl
  m__law_stranger := He.glo_ok X G (c.d.fact 17 (f := .glo "_law_stranger") rfl)
  f__law_whole := c.d.def_ 18 (d := d__law_whole) rfl
  m__law_whole := He.glo_ok X G (c.d.fact 18 (f := .glo "_law_whole") rfl)
  f__law_same := c.d.def_ 19 (d := d__law_same) rfl
  m__law_same := He.glo_ok X G (c.d.fact 19 (f := .glo "_law_same") rfl)
  f__law_same_rows := c.d.def_ 20 (d := d__law_same_rows) rfl
  m__law_same_rows := He.glo_ok X G (c.d.fact 20 (f := .glo "_law_same_rows") rfl)
  f__law_copy := c.d.def_ 21 (d := d__law_copy) rfl
  m__law_copy := He.glo_ok X G (c.d.fact 21 (f := .glo "_law_copy") rfl)
  f__law_after := c.d.def_ 22 (d := d__law_after) rfl
  m__law_after := He.glo_ok X G (c.d.fact 22 (f := .glo "_law_after") rfl)
  f__law_circle := c.d.def_ 23 (d := d__law_circle) rfl
  m__law_circle := He.glo_ok X G (c.d.fact 23 (f := .glo "_law_circle") rfl)
  f__law_union := c.d.def_ 24 (d := d__law_union) rfl
  m__law_union := He.glo_ok X G (c.d.fact 24 (f := .glo "_law_union") rfl)
  f__law_normal := c.d.def_ 25 (d := d__law_normal) rfl
  m__law_normal := He.glo_ok X G (c.d.fact 25 (f := .glo "_law_normal") rfl)
  f__law_gate := c.d.def_ 26 (d := d__law_gate) rfl
  m__law_gate := He.glo_ok X G (c.d.fact 26 (f := .glo "_law_gate") rfl)
  f__law_wound := c.d.def_ 27 (d := d__law_wound) rfl
  m__law_wound := He.glo_ok X G (c.d.fact 27 (f := .glo "_law_wound") rfl)
  f__law_parts := c.d.def_ 28 (d := d__law_parts) rfl
  m__law_parts := He.glo_ok X G (c.d.fact 28 (f := .glo "_law_parts") rfl)
  f__law_grown := c.d.def_ 29 (d := d__law_grown) rfl
  m__law_grown := He.glo_ok X G (c.d.fact 29 (f := .glo "_law_grown") rfl)
  f__law_any_nest := c.d.def_ 30 (d := d__law_any_nest) rfl
  m__law_any_nest := He.glo_ok X G (c.d.fact 30 (f := .glo "_law_any_nest") rfl)
  f__law_card := c.d.def_ 31 (d := d__law_card) rfl
  m__law_card := He.glo_ok X G (c.d.fact 31 (f := .glo "_law_card") rfl)
  f__law_cards := c.d.def_ 32 (d := d__law_cards) rfl
  m__law_cards := He.glo_ok X G (c.d.fact 32 (f := .glo "_law_cards") rfl)
  f__law_wild := c.d.def_ 33 (d := d__law_wild) rfl
  m__law_wild := He.glo_ok X G (c.d.fact 33 (f := .glo "_law_wild") rfl)
  f__law_long := c.d.def_ 34 (d := d__law_long) rfl
  m__law_long := He.glo_ok X G (c.d.fact 34 (f := .glo "_law_long") rfl)
  f__law_bend := c.d.def_ 35 (d := d__law_bend) rfl
  m__law_bend := He.glo_ok X G (c.d.fact 35 (f := .glo "_law_bend") rfl)
  f__law_book := c.d.def_ 36 (d := d__law_book) rfl
  m__law_book := He.glo_ok X G (c.d.fact 36 (f := .glo "_law_book") rfl)
  f__law_open := c.d.def_ 37 (d := d__law_open) rfl
  m__law_open := He.glo_ok X G (c.d.fact 37 (f := .glo "_law_open") rfl)
  f__law_bad_book := c.d.def_ 38 (d := d__law_bad_book) rfl
  m__law_bad_book := He.glo_ok X G (c.d.fact 38 (f := .glo "_law_bad_book") rfl)
  f__law_bad_list := c.d.def_ 39 (d := d__law_bad_list) rfl
  m__law_bad_list := He.glo_ok X G (c.d.fact 39 (f := .glo "_law_bad_list") rfl)
  f__law_news := c.d.def_ 40 (d := d__law_news) rfl
  m__law_news := He.glo_ok X G (c.d.fact 40 (f := .glo "_law_news") rfl)
  f__law_way := c.d.def_ 41 (d := d__law_way) rfl
  m__law_way := He.glo_ok X G (c.d.fact 41 (f := .glo "_law_way") rfl)
  f__law_arrow_row := c.d.def_ 42 (d := d__law_arrow_row) rfl
  m__law_arrow_row := He.glo_ok X G (c.d.fact 42 (f := .glo "_law_arrow_row") rfl)
  f__law_arrows_right := c.d.def_ 43 (d := d__law_arrows_right) rfl
  m__law_arrows_right := He.glo_ok X G (c.d.fact 43 (f := .glo "_law_arrows_right") rfl)
  f__law_ahead_right := c.d.def_ 44 (d := d__law_ahead_right) rfl
  m__law_ahead_right := He.glo_ok X G (c.d.fact 44 (f := .glo "_law_ahead_right") rfl)
  f__law_opens_right := c.d.def_ 45 (d := d__law_opens_right) rfl
  m__law_opens_right := He.glo_ok X G (c.d.fact 45 (f := .glo "_law_opens_right") rfl)
  f__law_way_right := c.d.def_ 46 (d := d__law_way_right) rfl
  m__law_way_right := He.glo_ok X G (c.d.fact 46 (f := .glo "_law_way_right") rfl)
  f__law_moves_right := c.d.def_ 47 (d := d__law_moves_right) rfl
  m__law_moves_right := He.glo_ok X G (c.d.fact 47 (f := .glo "_law_moves_right") rfl)
  f__law_refused := c.d.def_ 48 (d := d__law_refused) rfl
  m__law_refused := He.glo_ok X G (c.d.fact 48 (f := .glo "_law_refused") rfl)
  f__law_refusals_right := c.d.def_ 49 (d := d__law_refusals_right) rfl
  m__law_refusals_right := He.glo_ok X G (c.d.fact 49 (f := .glo "_law_refusals_right") rfl)
  f_law := c.d.def_ 50 (d := d_law) rfl
  m_law := He.glo_ok X G (c.d.fact 50 (f := .glo "law") rfl)
  g_TiedError := He.glo_ok X G (c.d.fact 67 (f := .glo "TiedError") rfl)
  g_BadBook := He.glo_ok X G (c.d.fact 68 (f := .glo "BadBook") rfl)
  xf_BadBook := xfB_ok (c.b 1 (b := fun K => xfB K (He.ga K "BadBook")) rfl)
  no_BadBook := He.eqO_ok (c.b 2 (b := fun K => He.eqO (PySem.W.findIn K (.ref (He.ga K "BadBook")) "place") (some none)) rfl)
  x_BadBook_BadBook := He.exm_ok (c.d.fact 72 (f := .exm "BadBook" "BadBook" true) rfl)
  x_BadBook_BadPlace := He.exm_ok (c.d.fact 73 (f := .exm "BadBook" "BadPlace" false) rfl)
  x_BadBook_TiedError := He.exm_ok (c.d.fact 74 (f := .exm "BadBook" "TiedError" true) rfl)
  BadBook := ⟨He.glo_ok X G (c.d.fact 68 (f := .glo "BadBook") rfl), low_BadBook c⟩
  g_BadPlace := He.glo_ok X G (c.d.fact 69 (f := .glo "BadPlace") rfl)
  xf_BadPlace := xfB_ok (c.b 4 (b := fun K => xfB K (He.ga K "BadPlace")) rfl)
  no_BadPlace := He.eqO_ok (c.b 5 (b := fun K => He.eqO (PySem.W.findIn K (.ref (He.ga K "BadPlace")) "place") (some none)) rfl)
  x_BadPlace_BadBook := He.exm_ok (c.d.fact 75 (f := .exm "BadPlace" "BadBook" false) rfl)
  x_BadPlace_BadPlace := He.exm_ok (c.d.fact 76 (f := .exm "BadPlace" "BadPlace" true) rfl)
  x_BadPlace_TiedError := He.exm_ok (c.d.fact 77 (f := .exm "BadPlace" "TiedError" true) rfl)
  BadPlace := ⟨He.glo_ok X G (c.d.fact 69 (f := .glo "BadPlace") rfl), low_BadPlace c⟩
  g_BadSize := He.glo_ok X G (c.d.fact 70 (f := .glo "BadSize") rfl)
  xf_BadSize := xfB_ok (c.b 7 (b := fun K => xfB K (He.ga K "BadSize")) rfl)
  no_BadSize := He.eqO_ok (c.b 8 (b := fun K => He.eqO (PySem.W.findIn K (.ref (He.ga K "BadSize")) "size") (some none)) rfl)
  x_BadSize_BadBook := He.exm_ok (c.d.fact 78 (f := .exm "BadSize" "BadBook" false) rfl)
  x_BadSize_BadPlace := He.exm_ok (c.d.fact 79 (f := .exm "BadSize" "BadPlace" false) rfl)
  x_BadSize_TiedError := He.exm_ok (c.d.fact 80 (f := .exm "BadSize" "TiedError" true) rfl)
  BadSize := ⟨He.glo_ok X G (c.d.fact 70 (f := .glo "BadSize") rfl), low_BadSize c⟩
  g_BadNews := He.glo_ok X G (c.d.fact 71 (f := .glo "BadNews") rfl)
  xf_BadNews := xfB_ok (c.b 10 (b := fun K => xfB K (He.ga K "BadNews")) rfl)
  no_BadNews := He.eqO_ok (c.b 11 (b := fun K => He.eqO (PySem.W.findIn K (.ref (He.ga K "BadNews")) "place") (some none)) rfl)
  x_BadNews_BadBook := He.exm_ok (c.d.fact 81 (f := .exm "BadNews" "BadBook" false) rfl)
  x_BadNews_BadPlace := He.exm_ok (c.d.fact 82 (f := .exm "BadNews" "BadPlace" false) rfl)
  x_BadNews_TiedError := He.exm_ok (c.d.fact 83 (f := .exm "BadNews" "TiedError" true) rfl)
  BadNews := ⟨He.glo_ok X G (c.d.fact 71 (f := .glo "BadNews") rfl), low_BadNews c⟩
theorem law0 {P : Program} {w : World} {K : Fg} {mg : Str → Option Value} {base : Heap} {k : Nat} {f : Addr} {fd : FuncData} {ps : List Str} {sp : Sp} (F : FnOk P w K mg base (L2.CX P w) k f fd ps sp) (he : ∀ vs H Q E, sp vs H Q E → sp vs H Q E0) : FnOk P w K mg base CX0 k f fd ps sp :=
  ⟨F.len, fun A outer s H args us vs Q E hr e hb hv h => codeAny_mono (F.run A outer s H args us vs Q E0 hr e hb hv (he _ _ _ _ h)) fun r s' q => by
    cases r with
    | error e => obtain ⟨_, _, _, _, _, _, _, _, _, _, _, _, z⟩ := q; exact z.elim
    | ok fl => cases fl <;> exact q⟩
theorem facts (plain : ∀ ns : List Int, ns.length ≤ 63 → m_law ns = some true) {w : World} {K : Fg} {h : Heap} {mg : Str → Option Value} {f : Addr} (X : K.In h) (G : h.Ns mainGlobals mg) (hfa : mg ("law" : Str) = some (.ref f)) (c : Hk.SaysX fa fn bs ls vs K) :
    ∃ fd : FuncData, (∀ (s : Shared) (v : Value), BindsTo s fd ⟨[v], []⟩ [("script", v)]) ∧ ∀ base : Heap, K.In base → base.Ns mainGlobals mg → FnOk R.prog w K mg base CX0 7 f fd ["script"] (p_law K) := by
  have T := tx_of X G c
  obtain ⟨fd, F⟩ := T.f_law
  have e := hfa.symm.trans T.m_law
  cases e
  have b := FunD.bindsA (ps := ["script"]) F fun _ _ _ _ _ _ us hl => match us, hl with | [_], _ => rfl
  refine ⟨fd, fun s v => b s [v] rfl, fun base _ _ => law0 (ok_law T F) fun vs H Q E h => h⟩
end G
open PySem PySem.W PySem.Calls PyProof.Rows
theorem holds_of (plain : ∀ ns : List Int, ns.length ≤ 63 → G.m_law ns = some true) : PySem.Challenge.rw_ringfolk_k00_arrows_and_first_moves.Holds := by
  w_on; o_law
  refine HandSHeadRun.head_any (r := G.R) (q := view G.R.prog [63]) (H := G.hk) (ob := G.ob_)
    (M := 6000) (loose := G.loose) (d := HandSHeadRun.topDef G.R.prog 63) (kwd := []) G.ob_eq (by kernel_rfl)
    (fun s => by kernel_rfl) G.run (by kernel_rfl) (by kernel_rfl) (by kernel_rfl) (by rfl)
    (by first | assumption | decide +kernel) (by decide +kernel) ⟨rfl, rfl, rfl, rfl, rfl, by decide +kernel⟩ ?hw ?hc
  case hw => w_witness2
  case hc =>
    refine L2.walk_ofE (l := PySem.Challenge.rw_ringfolk_k00_arrows_and_first_moves) (n := 63) (k := 7) (x := "script")
      (CX := L2.CX0) rfl (by decide) (by kernel_rfl) ⟨by decide, by decide, by decide⟩ ?F (fun _ _ _ _ z => z)
    intro w mg fa h Y Gl hmg0
    obtain ⟨K, KX, c⟩ := Y
    have hmg : mg ("law" : PySem.Str) = some (.ref fa) := by
      have e : (HandSHeadRun.topDef G.R.prog 63).name = ("law" : PySem.Str) := by kernel_rfl
      rw [← e]; exact hmg0
    obtain ⟨fd, hb, hF⟩ := G.facts plain (w := w) KX Gl hmg c
    refine ⟨K, fd, G.p_law K, KX, hb, fun H a ns hl _ hS => ?_, hF⟩
    exact ⟨ns, true, H, .cons ⟨a, rfl, hS⟩ .nil, L2.Same.refl _, plain ns hl, fun v B' H' _ _ hv => hv⟩

theorem PySem.Challenge.cw_ringfolk_k00_arrows_and_first_moves_holds : PySem.Challenge.rw_ringfolk_k00_arrows_and_first_moves.Holds := by
  exact holds_of (fun ns _ => M.plain ns)
