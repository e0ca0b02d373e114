import PyProof.Rows.All
import Wide.All
import OpenK.AllK
import Wide.FinOn
import KE.KExcSuper
import HandS.ForExc
import HandS.ExcInit
import HandS.ExcField
import HandS.ExcSuper
import KE.KExcIs
import HandS.IsInst
import HandS.ExcValue
import HandS.ExcIs
import HandS.ForMost
import HandS.Defaults
import HandS.Conv
import HandS.StrMore
import HandS.Small
import HandS.TupAny
import HandS.SetFor
import HandS.Zip
import HandS.List
import HandS.HeadHook1
import HandS.HeadHook2
import HandS.HeadHook3
import HandS.HeadHook4
import HandS.Wide
import HandS.TupMul
import HandS.RaiseOp
import HandS.Flow
import HandS.Gcd
import HandS.RaiseMore
import HandS.Style
import HandS.DictComp
import HandS.Head0
import HandS.Head1
import HandS.Head2
import HandS.HeadEnd
import HandS.Ends
import PySem.Challenge.RW_markwalls_k89_texts_that_are_shown
set_option Elab.async false
set_option linter.all false
set_option maxRecDepth 100000
set_option maxHeartbeats 4000000
/-! Low: an own exception class below ValueError (through further own classes) whose __init__ says super().__init__(f); self.f = f. -/
namespace Lo
open PySem PySem.W PySem.Calls PyProof.Rows PySem.HandSPX
def iA (fld : Str) (p1 p2 : Pos) : Arguments := { posonlyargs := [], args := [{ arg := "self", annotation := none, pos := p1 }, { arg := fld, annotation := none, pos := p2 }], vararg := none, kwonlyargs := [], kw_defaults := [], kwarg := none, defaults := [] }
def iB (fld : Str) (a1 a2 a3 a4 a5 a6 b1 b2 b3 b4 : Pos) : List Stmt :=
  [.Expr (.Call (.Attribute (.Call (.Name "super" a1) [] [] a2) "__init__" a3) [.Name fld a4] [] a5) a6, .Assign [.Attribute (.Name "self" b1) fld b2] (.Name fld b3) b4]
def iS (fld : Str) : Scope := { kind := .function, names := [(PySem.Str.ofString "self", .local), (fld, .local), (PySem.Str.ofString "__class__", .free), (PySem.Str.ofString "super", .globalImplicit)], isGenerator := false, isCoroutine := false, more := [] }
/-- the field's name is none of the names that the text uses -/
structure FldOk (fld : Str) : Prop where
  a : (fld == ("self" : Str)) = false
  b : (("__class__" : Str) == fld) = false
  c : (("super" : Str) == fld) = false
  d : (fld == ("__debug__" : Str)) = false
  e : (("self" : Str) == fld) = false
theorem FldOk.look {fld : Str} (o : FldOk fld) : (iS fld).names.lookup fld = some .local := by
  show List.lookup fld [(PySem.Str.ofString "self", NameKind.local), (fld, .local), (PySem.Str.ofString "__class__", .free), (PySem.Str.ofString "super", .globalImplicit)] = _
  have h := o.a
  simp [List.lookup, h]
theorem FldOk.self {fld : Str} : (iS fld).names.lookup ("self" : Str) = some .local := by
  show List.lookup ("self" : Str) [(PySem.Str.ofString "self", NameKind.local), (fld, .local), (PySem.Str.ofString "__class__", .free), (PySem.Str.ofString "super", .globalImplicit)] = _
  simp [List.lookup]
theorem FldOk.cls {fld : Str} (o : FldOk fld) : (iS fld).names.lookup ("__class__" : Str) = some .free := by
  show List.lookup ("__class__" : Str) [(PySem.Str.ofString "self", NameKind.local), (fld, .local), (PySem.Str.ofString "__class__", .free), (PySem.Str.ofString "super", .globalImplicit)] = _
  have h := o.b
  have h2 : (("__class__" : Str) == (PySem.Str.ofString "self")) = false := by decide +kernel
  simp [List.lookup, h, h2]
theorem FldOk.sup {fld : Str} (o : FldOk fld) : (iS fld).names.lookup ("super" : Str) = some .globalImplicit := by
  show List.lookup ("super" : Str) [(PySem.Str.ofString "self", NameKind.local), (fld, .local), (PySem.Str.ofString "__class__", .free), (PySem.Str.ofString "super", .globalImplicit)] = _
  have h := o.c
  have h2 : (("super" : Str) == (PySem.Str.ofString "self")) = false := by decide +kernel
  have h3 : (("super" : Str) == (PySem.Str.ofString "__class__")) = false := by decide +kernel
  simp [List.lookup, h, h2, h3]
/-- what the written part says of the class at C and of its __init__ at fI -/
structure LowC (P : Program) (K : Frag) (C fI : Addr) (fld : Str) : Prop where
  fo : FldOk fld
  cls : ∃ nm q N bs bm sn sub ab col dd k0 k1 k2 k3 k5, K.lookup C = some (excClassObj nm q C N bs bm true sn sub ab col dd k0 k1 k2 k3 k5 "ValueError.__new__") ∧ refsVE bm = true
  sa : findIn K (.ref C) "__setattr__" = some (some (.builtin "object.__setattr__"))
  noN : findIn K (.ref C) fld = some none
  iC : findIn K (.ref C) "__init__" = some (some (.ref fI))
  tI : typeIn K (.ref fI) = some (.type "function")
  kC : keepIn K (.ref C) = true
  exC : subIn K (.ref C) (.type "BaseException") = some true
  veC : subIn K (.ref C) (.type "ValueError") = some true
  tyC : typeIn K (.ref C) = some (.type "type")
  selfC : mroIn K C (.ref C) = some true
  along : ks_superIn K C C "__init__" = some (some (.builtin "ValueError.__init__"))
  sup : nsIn K mainGlobals "super" = some none
  opq : nsIn K cStatics "thirdparty.any" = some none
  top : (P.main.scope.names.lookup ("super" : Str)).isSome = false
  fn : ∃ (oc : Value) (od : Option Addr) (q : Str) (doc pm : Value) (an : Option Addr) (cc cda : Addr) (ct : Value) (osl : Array (Option Value)) (p1 p2 a1 a2 a3 a4 a5 a6 b1 b2 b3 b4 : Pos),
    K.lookup fI = some ⟨oc, od, .func (fnX "__init__" q (iA fld p1 p2) (iB fld a1 a2 a3 a4 a5 a6 b1 b2 b3 b4) (iS fld) [("__class__", cc)] .none .none doc pm an (.ref cda) ct), osl⟩ ∧ codeIn K (.ref cda) q = true ∧
    (∀ u v : Value, bindArgs (fnX "__init__" q (iA fld p1 p2) (iB fld a1 a2 a3 a4 a5 a6 b1 b2 b3 b4) (iS fld) [("__class__", cc)] .none .none doc pm an (.ref cda) ct) ⟨[u, v], []⟩ = pure [((PySem.Str.ofString "self" : Str), u), (fld, v)]) ∧
    (∀ env : Env, ∃ pl : Sem Bool, eval (.Call (.Attribute (.Call (.Name "super" a1) [] [] a2) "__init__" a3) [.Name fld a4] [] a5) env = (do
      let ov ← attributeBase (.Call (.Name "super" a1) [] [] a2) "__init__" env (eval (.Call (.Name "super" a1) [] [] a2) env)
      standAt a3.atName
      let (f, first) ← holding [ov] (getMethod ov "__init__" pl)
      callWith a5 f first (backTo a5 (starEach [.Name fld a4] env)) [])) ∧
    (∃ ccl cdd vs ccs file tf, K.lookup cda = some ⟨ccl, cdd, .fields vs, ccs⟩ ∧ vs[2]? = some (.str file tf) ∧ ((P.main.file : Str) == file) = true) ∧
    (∃ cl cld csl, K.lookup cc = some ⟨cl, cld, .cell (some (.ref C)), csl⟩)
theorem one_size (v : Value) : [v].length ≤ sizeLine := by
  rw [sizeLine_eq]
  exact (by decide : 1 ≤ 16777216)
/-- what __init__ leaves of a fresh exception at x -/
structure InitEnd (h h' : Heap) (x C dx t1 : Addr) (fld : Str) (v : Value) : Prop where
  keep : ∀ b o, b ≠ x → h.get? b = some o → h'.get? b = some o
  obj : h'.get? x = some { cls := .ref C, dict := some dx, data := .fields #[.ref t1, .none, .none, .none, .bool false, .none] }
  dbig : h.objs.size ≤ dx
  dne : dx ≠ x
  ns : h'.Ns1 dx (fun y => if y = fld then some v else none)
structure OwnMade (h h' : Heap) (e C d : Addr) (fld : Str) (v : Value) : Prop where
  keep : ∀ b o, h.get? b = some o → h'.get? b = some o
  new : h.objs.size ≤ e
  obj : ∃ oe vs, h'.get? e = some oe ∧ oe.cls = .ref C ∧ oe.dict = some d ∧ oe.data = .fields vs ∧ vs[1]? = some .none ∧ vs[2]? = some .none ∧ 4 < vs.size
  dbig : h.objs.size ≤ d
  dne : d ≠ e
  ns : h'.Ns1 d (fun y => if y = fld then some v else none)
section
variable {prog : Program} {w : World} {A : Around} {E : Value → Shared → Prop} {h : Heap} {g : Array GenState} {d : Drawn} {t : Nat} {os : OsState}
variable {nm q : Str} {C N : Addr} {bs bm : List Value} {hdct : Bool} {sn : List Str} {sub : List Value} {ab : Bool} {col : Option Bool} {dd : Option Addr} {k0 k1 k2 k3 k5 : Option Value}
theorem call_mw {u e t0 : Addr} {rest : List Value} {Q : Value → Shared → Prop}
    (hC : h.get? C = some (excClassObj nm q C N bs bm hdct sn sub ab col dd k0 k1 k2 k3 k5 "ValueError.__new__")) (he : h.get? e = some (excO C t0)) (hu : h.get? u = some (kxs_mw "ValueError.__init__" e)) (hrest : rest.length ≤ sizeLine)
    (hq : ∀ h' t1, (∀ b o, b ≠ e → h.get? b = some o → h'.get? b = some o) → h'.get? e = some (excO C t1) → Q .none ⟨h', g, d, t, os⟩) :
    wpAny (model prog w) A (call (.ref u) rest) Q E ⟨h, g, d, t, os⟩ := by
  refine wpAny_call (codeAny_of_tree ?_)
  show wpAny _ A.in1 (callAny (.ref u) ⟨rest, []⟩) _ _ _
  simp only [callAny]
  refine wpAny_bind (wpAny_load hu ?_)
  simp only [kxs_mw, show (Value.type "method-wrapper" == Value.type "method" || Value.type "method-wrapper" == Value.type "builtin_function_or_method" || Value.type "method-wrapper" == Value.type "method-wrapper") = true by decide, if_true]
  refine KFB.if_so (by decide) ?_
  refine wpAny_bind (ESX.check_bound F.excBase_ValueError hC he rfl ?_)
  refine wpAny_bind (wpAny_pure (wpAny_pure ?_))
  refine ⟨Code.quiet_builtin _ (by decide +kernel), codeAny_builtin F.excBase_ValueError.initEntry ?_⟩
  rw [Around.under_plainId F.excBase_ValueError.init.plain _]
  wp_walk
  refine hq _ h.objs.size (fun b o hb ho => ?_) ?_
  · rw [Heap.get?_update_other _ _ (Ne.symm hb)]
    exact Heap.get?_push_of_some _ ho
  · rw [Heap.get?_update_self _ (Heap.get?_push_of_some _ he) rfl]
    rfl
end
theorem callWith_mw {M : Model} {A : Around} {E : Value → Shared → Prop} {s : Shared} {pos : Pos} {u x : Addr} {env : Env} {e : Expr} {rest : List Expr} {Q : Value → Shared → Prop}
    (h : wpAny M A (spliced (backTo pos (starEach (e :: rest) env))) (fun vs s₁ => KxsAt "ValueError.__init__" u x s₁.heap ∧ wpAny M A (call (.ref u) vs) Q E s₁) E s)
    (he : starEach (e :: rest) env = (false, eval e env) :: starEach rest env) (hplain : (backTo pos (starEach rest env)).any (·.1) = false) :
    wpAny M A (callWith pos (.ref u) [] (backTo pos (starEach (e :: rest) env)) []) Q E s := by
  rw [he] at h ⊢
  have hp : (backTo pos ((false, eval e env) :: starEach rest env)).any (·.1) = false := by
    show (false || (backTo pos (starEach rest env)).any (·.1)) = false
    rw [hplain]
    rfl
  exact kxs_callWith (i := "ValueError.__init__") (x := x) hp (evalArgs_plain h)
section
variable {prog : Program} {w : World} {A : Around} {E : Value → Shared → Prop} {R : Result → Shared → Prop} {s : Shared} {K : Frag} {mg mb : Str → Option Value} {C fI : Addr} {fld : Str}
theorem low_init (T : LowC prog K C fI fld) {x t0 : Addr} {v : Value} (X : K.In s.heap) (hlim : s.heap.NoLimit) (hg : s.heap.Ns mainGlobals mg) (hb : s.heap.Ns builtinsNs mb) (hbb : mb "super" = bootBuiltins "super")
    (hx : s.heap.get? x = some (excO C t0)) (hnx : K.lookup x = none) (hroom : A.depth < recursionLimit)
    (hq : ∀ h' tk dx t1, InitEnd s.heap h' x C dx t1 fld v → R (.ok (.ret .none)) { s with heap := h', toks := tk }) :
    codeAny (model prog w) A (.call (.ref fI) ⟨[.ref x, v], []⟩) R s := by
  obtain ⟨oc, od, q0, doc, pm, an, cc, cda, ct, osl, p1, p2, a1, a2, a3, a4, a5, a6, b1, b2, b3, b4, ho, hcd, hbi, hev, ⟨ccl, cdd, vs, ccs, file, tf, hcode, hvs, hfile⟩, ⟨cl, cld, csl, hcell⟩⟩ := T.fn
  obtain ⟨nm, q, N, bs, bm, sn, sub, ab, col, dd, k0, k1, k2, k3, k5, hC, hbm⟩ := T.cls
  have hcl : clsIn K C = some { name := nm, bases := bs, mro := .ref C :: bm, ns := N, qualname := q, hasDict := true, slotNames := sn, subclasses := sub, abstract := ab, collection := col, hasDel := false } := by unfold clsIn; rw [hC] <;> rfl
  have hxL : s.heap.objs.size ≠ x := Nat.ne_of_gt (Heap.lt_size hx)
  obtain ⟨hp, g, d, t, os⟩ := s
  refine ks_codeAny_call_defAt (fd := fnX "__init__" q0 (iA fld p1 p2) (iB fld a1 a2 a3 a4 a5 a6 b1 b2 b3 b4) (iS fld) [("__class__", cc)] .none .none doc pm an (.ref cda) ct)
    (binds := [("self", .ref x), (fld, v)]) hroom (X _ _ ho) rfl hlim (codeRec_of X hcd) rfl (BindsTo.of_eq (hbi _ _)) (fun y hy => ?_) (fun y hy => ?_) (fun h₁ hns k => ?_) rfl rfl rfl
  · have hy' : y ∈ [(PySem.Str.ofString "self", NameKind.local), (fld, .local), (PySem.Str.ofString "__class__", .free), (PySem.Str.ofString "super", .globalImplicit)] := hy
    rcases List.mem_cons.mp hy' with rfl | hy'
    · show NameKind.local ≠ NameKind.cell; decide
    rcases List.mem_cons.mp hy' with rfl | hy'
    · show NameKind.local ≠ NameKind.cell; decide
    rcases List.mem_cons.mp hy' with rfl | hy'
    · show NameKind.free ≠ NameKind.cell; decide
    rcases List.mem_cons.mp hy' with rfl | hy'
    · show NameKind.globalImplicit ≠ NameKind.cell; decide
    cases hy'
  · rcases List.mem_cons.mp hy with rfl | hy
    · exact FldOk.self
    rcases List.mem_cons.mp hy with rfl | hy
    · exact T.fo.look
    cases hy
  · have k' : ∀ b o, hp.get? b = some o → h₁.get? b = some o := k
    have kb : (fun y => List.lookup y (List.reverse [((PySem.Str.ofString "self" : Str), Value.ref x), (fld, v)])) ("self" : Str) = some (.ref x) := by
      have e := T.fo.e
      show List.lookup ("self" : Str) [(fld, v), ((PySem.Str.ofString "self" : Str), Value.ref x)] = _
      simp [List.lookup, e]
    have kf : (fun y => List.lookup y (List.reverse [((PySem.Str.ofString "self" : Str), Value.ref x), (fld, v)])) fld = some v := by
      show List.lookup fld [(fld, v), ((PySem.Str.ofString "self" : Str), Value.ref x)] = _
      simp [List.lookup]
    generalize (fun y => List.lookup y (List.reverse [((PySem.Str.ofString "self" : Str), Value.ref x), (fld, v)])) = m at hns kb kf
    show _root_.PySem.wpAt _ _ _ (execs (iB fld a1 a2 a3 a4 a5 a6 b1 b2 b3 b4) _) _ _ _
    obtain ⟨pl, hpl⟩ := hev (callEnv (fnX "__init__" q0 (iA fld p1 p2) (iB fld a1 a2 a3 a4 a5 a6 b1 b2 b3 b4) (iS fld) [("__class__", cc)] .none .none doc pm an (.ref cda) ct) hp.objs.size fI)
    refine ks_wpAt_execs_cons (ks_wpAt_Expr_any (ks_wpAt_MethodCall ?_ hpl))
    have gX : K.In h₁ := X.keeps k'
    have hx₁ : h₁.get? x = some (excO C t0) := k' _ _ hx
    have hC₁ := gX _ _ hC
    have lk : ∀ {y : Str} {z : Value} {ps : Pos} {hh : Heap} {tt : Nat} {Q : Value → Shared → Prop} {E : Value → Shared → Prop} {A : Around}, hh.Ns hp.objs.size m → m y = some z → (iS fld).names.lookup y = some .local → (y == ("__debug__" : Str)) = false → Q z ⟨hh, g, d, tt, os⟩ →
        wpAny (model prog w) A (eval (.Name y ps) (ksEnv q0 (iS fld) hp.objs.size fI (.ref cda) cc)) Q E ⟨hh, g, d, tt, os⟩ := fun hn hz hl hd hq => wpAny_Name (wpAny_loadName_local rfl hl hn hz hq) hd
    refine ks_wpAt_super_base (env := ksEnv q0 (iS fld) hp.objs.size fI (.ref cda) cc) T.fo.sup T.fo.cls (by decide +kernel) rfl (gX _ _ ho) rfl rfl rfl (gX _ _ hcode) rfl hvs hfile T.top ?_
    refine ks_loadName_global rfl T.fo.sup (loadGlobal_builtin (env := ksEnv q0 (iS fld) hp.objs.size fI (.ref cda) cc) (hg.keeps k') (mg_none_of X hg T.sup) (hb.keeps k') (hbb.trans (by decide +kernel : bootBuiltins "super" = some (.type "super"))) ⟨rfl, ?_⟩)
    refine wpAny_loadName_free rfl T.fo.cls rfl ⟨_, gX _ _ hcell, rfl⟩ ?_
    refine wpAny_loadName_local rfl FldOk.self hns kb ?_
    refine ks_wpAny_isType_cls hC₁ rfl ⟨rfl, ?_⟩
    refine ks_wpAny_call_super hC₁ rfl hx₁ rfl (fun c => nofun) (looks_mroIn gX T.selfC) (fun h₂ hso k₂ => ?_)
    have gX₂ : K.In h₂ := gX.keeps k₂
    have hx₂ := k₂ _ _ hx₁
    have I₂ : InstAt h₂ x (excO C t0) C none := ⟨hx₂, rfl, rfl, trivial⟩
    have hI : Looks (model prog w) h₂ (isInstance (.ref x) (.type "ValueError")) true := I₂.type.andThen (looks_subIn gX₂ T.veC)
    have hal := T.along
    unfold ks_superIn at hal
    rw [hcl, Option.bind_some] at hal
    have hmr : Looks (model prog w) h₂ (mroOf (.ref C)) (.ref C :: bm) := (looks_clsIn gX₂ hcl).andThen .now
    refine kxs_getMethod kxs_ValueError hso (looks_opaque gX₂ T.opq) hmr rfl gX₂ hal hI (ks_ne gX₂ I₂ hcl) (by decide +kernel) ?_
    have hmw : (h₂.push (kxs_mw "ValueError.__init__" x)).get? h₂.objs.size = some (kxs_mw "ValueError.__init__" x) := Heap.get?_push_at rfl rfl
    have k₃ : ∀ b o, h₂.get? b = some o → (h₂.push (kxs_mw "ValueError.__init__" x)).get? b = some o := fun b o e => Heap.get?_push_of_some _ e
    generalize hq3 : h₂.push (kxs_mw "ValueError.__init__" x) = h₃ at hmw k₃
    have hx₃ := k₃ _ _ hx₂
    have hns₃ : h₃.Ns hp.objs.size m := (hns.keeps k₂).keeps k₃
    refine callWith_mw (x := x) ?_ rfl rfl
    refine Calls.spliced_cons (lk hns₃ kf T.fo.look T.fo.d (Calls.spliced_nil ⟨hmw, ?_⟩))
    have gX₃ : K.In h₃ := gX₂.keeps k₃
    refine call_mw (gX₃ _ _ hC) hx₃ hmw (one_size v) (fun h₄ t1 k₄ hx₄ => ?_)
    have hxL' : hp.objs.size ≠ x := hxL
    have hns₄ : h₄.Ns hp.objs.size m := by
      obtain ⟨o, es, ep, e1, r⟩ := hns₃
      exact ⟨o, es, ep, k₄ _ _ hxL' e1, r⟩
    have gX₄ : K.In h₄ := fun b o e => by
      by_cases hbx : b = x
      · rw [hbx] at e
        have e' : K.lookup x = some o := e
        rw [hnx] at e'
        cases e'
      · exact k₄ b o hbx (gX₃ b o e)
    refine wpAt_of_wpAny (wpAny_execs_cons (plainObj_wpAny_Assign_Attribute (lk hns₄ kf T.fo.look T.fo.d (lk hns₄ kb FldOk.self (by decide +kernel) ?_))))
    refine set_plain gX₄ (ox := excO C t1) (od := none) ⟨hx₄, rfl, rfl, trivial⟩ T.sa ?_
    refine exc_osa gX₄ hx₄ hcl (show refsVE (.ref C :: bm) = true from hbm) rfl T.noN (fun h₅ tk₅ dx k₅ dn dne hx₅ hn₅ => ?_)
    refine wpAny_execs_nil (hq h₅ tk₅ dx t1 ⟨fun b o hbx e => k₅ b o hbx (k₄ b o hbx (k₃ b o (k₂ b o (k' b o e)))), hx₅, ?_, dne, hn₅⟩)
    have z1 : hp.objs.size < h₁.objs.size := hns.lt
    have z4 : hp.objs.size < h₄.objs.size := hns₄.lt
    exact Nat.le_of_lt (Nat.lt_of_lt_of_le z4 dn)
theorem low_made (T : LowC prog K C fI fld) {v : Value} (X : K.In s.heap) (hlim : s.heap.NoLimit) (hg : s.heap.Ns mainGlobals mg) (hb : s.heap.Ns builtinsNs mb) (hbb : mb "super" = bootBuiltins "super") (hroom : A.depth + 1 < recursionLimit)
    (hq : ∀ h' tk e d, OwnMade s.heap h' e C d fld v → R (.ok (.ret (.ref e))) { s with heap := h', toks := tk }) :
    codeAny (model prog w) A (.call (.ref C) ⟨[v], []⟩) R s := by
  obtain ⟨nm, q, N, bs, bm, sn, sub, ab, col, dd, k0, k1, k2, k3, k5, hC, hbm⟩ := T.cls
  obtain ⟨hp, g, dr, tk, os⟩ := s
  have k : ∀ b o, hp.get? b = some o → ((hp.push (kdv_tup [v])).push (excO C hp.objs.size)).get? b = some o := fun b o e => Heap.get?_push_of_some _ (Heap.get?_push_of_some _ e)
  have hget : ((hp.push (kdv_tup [v])).push (excO C hp.objs.size)).get? (hp.objs.size + 1) = some (excO C hp.objs.size) := by heap_get
  have hnx : K.lookup (hp.objs.size + 1) = none := by
    cases e : K.lookup (hp.objs.size + 1) with
    | none => rfl
    | some o =>
      have z : hp.get? (hp.objs.size + 1) = some o := X _ _ e
      exact absurd (Nat.lt_of_succ_lt (Heap.lt_size z)) (Nat.lt_irrefl _)
  refine call_own F.excBase_ValueError (fun X => refsVE_contains X bm hbm) (X _ _ hC) (looks_findIn X T.iC) (fun self => bind_fn X self T.tI) (one_size v) ?_
  refine low_init (mg := mg) (mb := mb) (s := ⟨(hp.push (kdv_tup [v])).push (excO C hp.objs.size), g, dr, tk, os⟩) T (X.keeps k) (hlim.keeps k) (hg.keeps k) (hb.keeps k) hbb hget hnx ?_ fun h' tk' dx t1 ⟨k', hx, dn, dne, hns⟩ => ?_
  · show A.depth + 1 < recursionLimit
    exact hroom
  · have old : ∀ b o, hp.get? b = some o → h'.get? b = some o := fun b o e => k' b o (Nat.ne_of_lt (Nat.lt_succ_of_lt (Heap.lt_size e))) (k b o e)
    have z : hp.objs.size + 1 + 1 ≤ dx := by
      first
        | (simpa only [Heap.size_push] using dn)
        | exact dn
        | (have q := dn; rw [Heap.size_push, Heap.size_push] at q; exact q)
    exact ⟨rfl, hq h' tk' (hp.objs.size + 1) dx ⟨old, Nat.le_succ _, ⟨_, _, hx, rfl, rfl, rfl, rfl, rfl, (by show 4 < 6; decide)⟩, Nat.le_trans (Nat.le_trans (Nat.le_succ _) (Nat.le_succ _)) z, dne, hns⟩⟩
end
end Lo
namespace L2
open PySem PySem.Spec PyProof.Rows
theorem relO_one {v : V} {v' : Value} {g : Str} (r : RelV v v') (f : Str) : RelO (List.lookup f [(g, v)]) (if f = g then some v' else none) := by
  by_cases hw : f = g
  · subst hw
    rw [if_pos rfl]
    have q : List.lookup f [(f, v)] = some v := by simp [List.lookup]
    rw [q]
    exact r
  · rw [if_neg hw]
    have qw : (f == g) = false := by simpa using hw
    have q2 : List.lookup f [(g, v)] = none := by simp [List.lookup, qw]
    rw [q2]
    trivial
/-- C(e), an exception that is made: its own dict d is new and holds the field -/
def tMkLow (C : Addr) (fld : Str) (ta : TA) : St → Hp → XK → Prop := fun σ H Q => ta σ H fun vs H1 => ∃ v, vs = [v] ∧ ∀ d, H1 d = none → Q (.ref C) (some d) (upd H1 d (.xd [(fld, v)]))
section
variable {X : Cx} {C fI : Addr} {fld : Str}
theorem pmk_low {a : Expr} {ta : TA} {x : Str} {p pos : Pos} {k : Nat} (T : Lo.LowC X.prog X.K C fI fld) (gC : X.mg x = some (.ref C)) (hr : Room k X.A) (ha : PA X [a] ta) (hg : Gl X x := by rfl) (hdb : (x == ("__debug__" : Str)) = false := by decide)
    (he : starEach (a :: []) X.env = (false, eval a X.env) :: starEach [] X.env := by rfl) (hpl : (backTo pos (starEach [] X.env)).any (·.1) = false := by rfl) :
    PMk X (.Call (.Name x p) [a] [] pos) (tMkLow C fld ta) := by
  intro pins s σ H Q I h
  refine wpAny_Call_Name_kw (ld_glob I hg gC ?_ hdb)
  refine PySem.W.callWith_K (h₀ := X.base) I.ok.mod.kin T.kC (thn (ha.run pos pins s σ H _ I h) fun us s1 hh => ?_) he hpl
  obtain ⟨vs, H1, I1, r1, v, ev, q1⟩ := hh
  subst ev
  refine ⟨I1.kIn, ?_⟩
  cases r1 with
  | cons rv rn =>
    rename_i v' us'
    cases rn
    show wpAny _ _ (call (.ref C) [v']) _ _ _
    have hlim := I1.nolimit
    obtain ⟨mb, hb1, hb2⟩ := I1.mod.blt
    have hb3 : s1.heap.Ns builtinsNs mb := hb1.keeps I1.bk
    have hg3 : s1.heap.Ns mainGlobals X.mg := I1.mod.glob.keeps I1.bk
    obtain ⟨hp, g, dr, tk, os⟩ := s1
    refine wpAny_call (Lo.low_made T I1.kIn hlim hg3 hb3 (hb2 "super" (by decide +kernel)) (by have := hr.dp; omega) fun h' tk' e d M => ?_)
    show MkP X pins σ Q (.ref e) ⟨h', g, dr, tk', os⟩
    obtain ⟨oe, fv, hoe, hc, hd, hdat, h1, _, _⟩ := M.obj
    have hns := M.ns
    obtain ⟨G', g1, g2⟩ := restrict h' fun b => decide (b ≠ e)
    have gk : ∀ b, b ≠ e → G'.get? b = h'.get? b := fun b hb => g1 b (decide_eq_true hb)
    have ge : G'.get? e = none := g2 e (by simp)
    have old : ∀ b o, hp.get? b = some o → G'.get? b = some o := fun b o q => (gk b (Nat.ne_of_lt (Nat.lt_of_lt_of_le (Heap.lt_size q) M.new))).trans (M.keep b o q)
    have ob : ObjOk X.prog X.w (upd H1 d (.xd [(fld, v)])) G' d (.xd [(fld, v)]) :=
      ⟨_, hns.at (fun o q => (gk d M.dne).trans q), fun f => relO_one rv f⟩
    have J : Inv X pins σ (upd H1 d (.xd [(fld, v)])) ⟨G', g, dr, tk', os⟩ := I1.laid (t' := tk') old M.dbig ob
    refine ⟨e, oe, fv, ⟨G', g, dr, tk', os⟩, _, .ref C, some d, rfl, J, fun b o q => ?_, ge, hoe, ⟨hc, hd⟩, hdat, h1, ?_, rfl, I1.bare, raises_own T.exC T.tyC, q1 d (I1.hok.fresh M.dbig)⟩
    · by_cases hb : b = e
      · have q' : G'.get? b = some o := q
        rw [hb, ge] at q'; cases q'
      · exact (gk b hb).symm.trans q
    · rw [upd_ne (Ne.symm M.dne)]
      exact I1.hok.fresh M.new
/-- raise C(e) -/
def tRaiseLow (C : Addr) (fld : Str) (W : WX) (ta : TA) : TS := fun _ σ H => tMkLow C fld ta σ H fun cls d H' => W cls d σ H'
theorem ps_raiseLow {a : Expr} {ta : TA} {W : WX} {x : Str} {p pos pos2 : Pos} {k : Nat} (hc : X.calm = true) (T : Lo.LowC X.prog X.K C fI fld) (gC : X.mg x = some (.ref C)) (hr : Room k X.A) (tk : Takes X W) (ha : PA X [a] ta) (hg : Gl X x := by rfl) (hdb : (x == ("__debug__" : Str)) = false := by decide)
    (he : starEach (a :: []) X.env = (false, eval a X.env) :: starEach [] X.env := by rfl) (hpl : (backTo pos (starEach [] X.env)).any (·.1) = false := by rfl) :
    PS X (.Raise (some (.Call (.Name x p) [a] [] pos)) none pos2) (tRaiseLow C fld W ta) := ps_raise hc tk (pmk_low T gC hr ha hg hdb he hpl)
end
end L2

/-! TryAs: try with several except clauses, each with or without a name. -/
namespace L2
open PySem PySem.Spec PyProof.Rows
abbrev Clause := Value × Option Nat × (Addr → Value → Option Addr → TS)
/-- behind a suite whose clause had the name in slot i -/
def Ends.un (D : Ends) (i : Nat) : Ends := { nx := fun σ' H' => D.nx (σ'.set i none) H', rt := D.rt, bk := fun σ' H' => D.bk (σ'.set i none) H', ct := fun σ' H' => D.ct (σ'.set i none) H' }
def wAny (K : PySem.W.Frag) (Wout : WX) (D : Ends) : List Clause → WX
  | [] => Wout
  | (c, none, ts) :: r => fun cls d σ H => ∃ b, PySem.W.exmOne K cls c = some b ∧ (b = true → ∀ a, H a = none → ts a cls d D σ H) ∧ (b = false → wAny K Wout D r cls d σ H)
  | (c, some i, ts) :: r => fun cls d σ H => ∃ b, PySem.W.exmOne K cls c = some b ∧ (b = true → ∀ a, H a = none → ts a cls d (D.un i) (σ.set i (some (.ref a))) H) ∧ (b = false → wAny K Wout D r cls d σ H)
inductive HdA (X : Cx) : List ExceptHandler → List Clause → Prop
  | nil : HdA X [] []
  | cons {x : Str} {c : Value} {ts : Addr → Value → Option Addr → TS} {b₀ : Stmt} {suite : List Stmt} {np pos' : Pos} {hds : List ExceptHandler} {l : List Clause} (hc : Names X x c)
      (hsu : ∀ (a : Addr) (oe : Obj) (cls : Value) (d : Option Addr) (pn : List (Addr × Obj)), Zc cls d oe → (∃ vs, oe.data = .fields vs) → PSs (X.suite a ((a, oe) :: pn)) (b₀ :: suite) (ts a cls d)) (r : HdA X hds l) :
      HdA X (.ExceptHandler (some (.Name x np)) none (b₀ :: suite) pos' :: hds) ((c, none, ts) :: l)
  | consAs {x n : Str} {i : Nat} {c : Value} {ts : Addr → Value → Option Addr → TS} {b₀ : Stmt} {suite : List Stmt} {np pos' : Pos} {hds : List ExceptHandler} {l : List Clause} (hi : X.N[i]? = some n) (hln : X.env.kindOf n = some .local) (hc : Names X x c)
      (hsu : ∀ (a : Addr) (oe : Obj) (cls : Value) (d : Option Addr) (pn : List (Addr × Obj)), Zc cls d oe → (∃ vs, oe.data = .fields vs) → PSs (X.suite a ((a, oe) :: pn)) (b₀ :: suite) (ts a cls d)) (r : HdA X hds l) :
      HdA X (.ExceptHandler (some (.Name x np)) (some n) (b₀ :: suite) pos' :: hds) ((c, some i, ts) :: l)
section
variable {X : Cx} {body : List Stmt} {h₀ : ExceptHandler} {hds : List ExceptHandler} {l : List Clause} {pos : Pos} {tb : WX → TS} {Wout : WX}
theorem ps_try_any (hs : X.stack = X.env :: X.outer) (hf : X.env.frame = some X.env.locals) (hN : X.N.Nodup) (tk : Takes X Wout)
    (hb : ∀ (W : WX) (pn : List (Addr × Obj)) (xe : Value → Shared → Prop), Takes (X.tr pn xe) W → PassesOwn (model X.prog X.w) X.A X.env xe → PSs (X.tr pn xe) body (tb W))
    (hh : HdA X (h₀ :: hds) l) : PS X (.Try body (h₀ :: hds) [] [] pos) (fun D σ H => tb (wAny X.K Wout D l) D σ H) := by
  refine ⟨fun pins s σ H D I h => ?_⟩
  have ok := I.ok
  have hfr : X.A.frames = some (X.env :: X.outer) := by rw [ok.frames, hs]
  refine wpAny_Try_except ?_
  refine wpAny_mono ((hb (wAny X.K Wout D l) (X.pn ++ pins) (fun e s₁ => wpAny (model X.prog X.w) X.A (noteFrame e X.env) (fun _ s₂ => wpAny (model X.prog X.w) X.A (setFlight e none) (fun _ s₃ =>
    wpAny (model X.prog X.w) X.A (handleBy e X.env (h₀ :: hds)) (SP X pins D) X.xe s₃) X.xe s₂) X.xe s₁) (fun u s' xx => ?_) PassesOwn.looking).run [] s σ H D (I.toTry _) h) (fun f s1 hsp => ?_) (fun e s1 he => he)
  · obtain ⟨a, B, sI, pins', σ', H', cls, d, rfl, J', nb, up, sky, na, os, ag, w⟩ := xx
    have J : Inv X pins σ' H' sI := J'.ofTry ok
    have sky' : Sky B (X.env :: X.outer) a (Zc cls d) X.env.locals s'.heap := by rw [← hs]; exact sky
    show wpAny (model X.prog X.w) X.A (noteFrame (.ref a) X.env) _ _ _
    refine Sky.land Zc.steady hfr hf sky' fun h3 fl3 up3 => ?_
    have J3 : Inv X pins σ' H' { s' with heap := h3 } := J.landed nb fl3.1 (up.trans up3) os ag
    obtain ⟨oe3, vs3, he3, hz3, hd3⟩ := fl3.there
    have nfr : a ∉ frs (X.env :: X.outer) := fun hm => by
      obtain ⟨_, o', e', hnf⟩ := fl3.2.2.1.mem hm
      rw [he3] at e'; cases e'
      exact hnf _ hd3
    have nL : a ≠ X.env.locals := fun z => nfr (List.mem_filterMap.mpr ⟨X.env, List.mem_cons_self, by rw [hf, z]⟩)
    have nF : a ∉ X.fs := fun hm => by
      obtain ⟨e, he, q⟩ := List.mem_filterMap.mp hm
      exact nfr (List.mem_filterMap.mpr ⟨e, List.mem_cons_of_mem _ he, q⟩)
    have S3 := J3.suite he3 hd3 na nL nF
    have LT : PySem.W.Looks (model X.prog X.w) h3 (typeOf (.ref a)) cls := fun A Q E s k q => wpAny_typeOf_ref (k _ _ he3) (by rw [hz3.1]; exact q)
    have test : ∀ {x : Str} {c : Value} {np : Pos} {Q : Value → Shared → Prop} {E : Value → Shared → Prop}, Names X x c → Q c { s' with heap := h3 } → wpAny (model X.prog X.w) (X.A.mark (some (.ref a))) (eval (.Name x np) X.env) Q E { s' with heap := h3 } := fun {x c np Q E} hc q => by
      obtain ⟨hg, hdbg, hm | ⟨hm, hv, hnn⟩⟩ := hc
      · exact ld_glob (X := X.suite a ((a, oe3) :: (X.pn ++ pins))) S3 hg hm q hdbg
      · exact ld_blt (X := X.suite a ((a, oe3) :: (X.pn ++ pins))) S3 hg hm hv q hnn hdbg
    have go : ∀ {hds' : List ExceptHandler} {l' : List Clause}, HdA X hds' l' → wAny X.K Wout D l' cls d σ' H' →
        wpAny (model X.prog X.w) X.A (handleBy (.ref a) X.env hds') (SP X pins D) X.xe { s' with heap := h3 } := by
      intro hds' l' hk
      induction hk with
      | nil =>
        intro w
        refine wpAny_handleBy_nil ?_
        obtain ⟨k1, k2, k3, oe, vs, T, oT, ts', he, hz, hd, h1, hr⟩ := id fl3
        unfold PySem.passOn
        refine wpAny_bind (wpAny_field he hd h1 ?_)
        rw [if_neg (show ¬ ((Value.ref T == Value.none) = true) from by simp)]
        have fin : wpAny (model X.prog X.w) X.A (setFlight (.ref a) X.env.frame) (fun _ s4 => wpAny (model X.prog X.w) X.A (throw (.ref a) : Sem Flow) (SP X pins D) X.xe s4) X.xe { s' with heap := h3 } := by
          rw [hf]
          refine HandSPX.setFlight_upZ fl3 fun h4 hh4 up4 => wpAny_throw (tk _ _ ?_)
          exact ⟨a, B, sI, pins, σ', H', cls, d, rfl, J, nb, (up.trans up3).trans up4, .inr (.inr (by rw [hs]; exact hh4)), na, os, ag, w⟩
        first
          | exact wpAny_bind (wpAny_pure (wpAny_bind fin))
          | exact wpAny_bind fin
      | @cons x c ts b₀ suite np pos' hds2 l2 hc hsu r ih =>
        intro w
        obtain ⟨b, hb1, hyes, hno⟩ := w
        refine wpAny_handleBy_cons (codeAny_handlers_test ?_) (by intro q; cases q)
        have LM := PySem.W.exm_one (M := model X.prog X.w) (J3.kIn) LT hb1
        refine test hc (LM.here ?_)
        cases b with
        | true =>
          refine codeAny_handlers_suite (HandSPX.lands_againZ fl3 fun h4 fl4 up4 => ?_)
          have J4 : Inv X pins σ' H' { s' with heap := h4 } := J.landed nb fl4.1 ((up.trans up3).trans up4) os ag
          obtain ⟨oe4, vs4, he4, hz4, hd4⟩ := fl4.there
          have S4 := J4.suite he4 hd4 na nL nF
          refine wpAny_mono ((hsu a oe4 cls d (X.pn ++ pins) hz4 ⟨_, hd4⟩).run [] _ _ H' _ S4 (hyes rfl a na)) (fun f s6 hsp => ?_) (fun _ _ z => False.elim z)
          cases f with
          | next =>
            obtain ⟨σ6, H6, S6, q6⟩ := hsp
            exact ⟨_, _, S6.unsuite ok, q6⟩
          | brk =>
            obtain ⟨σ6, H6, S6, q6⟩ := hsp
            exact ⟨_, _, S6.unsuite ok, q6⟩
          | cont =>
            obtain ⟨σ6, H6, S6, q6⟩ := hsp
            exact ⟨_, _, S6.unsuite ok, q6⟩
          | ret u =>
            obtain ⟨v6, σ6, H6, S6, r6, q6⟩ := hsp
            exact ⟨_, _, _, S6.unsuite ok, r6, q6⟩
        | false => exact ih (hno rfl)
      | @consAs x n i c ts b₀ suite np pos' hds2 l2 hi hln hc hsu r ih =>
        intro w
        obtain ⟨b, hb1, hyes, hno⟩ := w
        refine wpAny_handleBy_cons (codeAny_handlers_test ?_) (by intro q; cases q)
        have LM := PySem.W.exm_one (M := model X.prog X.w) (J3.kIn) LT hb1
        refine test hc (LM.here ?_)
        cases b with
        | true =>
          refine codeAny_handlers_suite_as (HandSPX.lands_againZ fl3 fun h4 fl4 up4 => ?_)
          have J4 : Inv X pins σ' H' { s' with heap := h4 } := J.landed nb fl4.1 ((up.trans up3).trans up4) os ag
          obtain ⟨oe4, vs4, he4, hz4, hd4⟩ := fl4.there
          have S4 := J4.suite he4 hd4 na nL nF
          refine store_ok (X := X.suite a ((a, oe4) :: (X.pn ++ pins))) (v := .ref a) S4 hN hi (.inl hln) rfl (fun s5 S5 => ?_) (.inr hln)
          refine wpAny_mono ((hsu a oe4 cls d (X.pn ++ pins) hz4 ⟨_, hd4⟩).run [] s5 _ H' _ S5 (hyes rfl a na)) (fun f s6 hsp => ?_) (fun _ _ z => False.elim z)
          have end_ : ∀ {σ6 : St} {H6 : Hp} {Q : Shared → Prop}, Inv (X.suite a ((a, oe4) :: (X.pn ++ pins))) [] σ6 H6 s6 → (∀ s7, Inv X pins (σ6.set i none) H6 s7 → Q s7) →
              wpAny (model X.prog X.w) X.A (do bindName X.env n .none; unbindBehindTheSuite X.env n pos') (fun _ s7 => Q s7) X.xe s6 := fun {σ6 H6 Q} S6 hq => gone_ok (S6.unsuite ok) hN hi hln hq
          cases f with
          | next =>
            obtain ⟨σ6, H6, S6, q6⟩ := hsp
            exact end_ S6 fun s7 J7 => ⟨_, _, J7, q6⟩
          | brk =>
            obtain ⟨σ6, H6, S6, q6⟩ := hsp
            exact end_ S6 fun s7 J7 => ⟨_, _, J7, q6⟩
          | cont =>
            obtain ⟨σ6, H6, S6, q6⟩ := hsp
            exact end_ S6 fun s7 J7 => ⟨_, _, J7, q6⟩
          | ret u =>
            obtain ⟨v6, σ6, H6, S6, r6, q6⟩ := hsp
            exact end_ S6 fun s7 J7 => ⟨_, _, _, J7, r6, q6⟩
        | false => exact ih (hno rfl)
    exact go hh w
  · cases f with
    | next =>
      obtain ⟨σ', H', J', q⟩ := hsp
      exact wpAny_execs_nil ⟨σ', H', J'.ofTry ok, q⟩
    | brk =>
      obtain ⟨σ', H', J', q⟩ := hsp
      exact ⟨σ', H', J'.ofTry ok, q⟩
    | cont =>
      obtain ⟨σ', H', J', q⟩ := hsp
      exact ⟨σ', H', J'.ofTry ok, q⟩
    | ret u =>
      obtain ⟨v, σ', H', J', r, q⟩ := hsp
      exact ⟨v, σ', H', J'.ofTry ok, r, q⟩
end
end L2

/-! IsExc: an exception object as a value, isinstance of it with a tuple of classes. -/
namespace L2
open PySem PySem.Spec PyProof.Rows
/-- an exception object with a dict of its own, not raised -/
def ExL (C d a : Addr) : HO := .ext fun h => ∃ (oe : Obj) (vs : Array Value), h.get? a = some oe ∧ Zc (.ref C) (some d) oe ∧ oe.data = .fields vs
theorem exL_ok {P : Program} {w : World} {H : Hp} {h : Heap} {a C d : Addr} {oe : Obj} {vs : Array Value} (e : h.get? a = some oe) (z : Zc (.ref C) (some d) oe) (hd : oe.data = .fields vs) : ObjOk P w H h a (ExL C d a) :=
  ⟨⟨oe, vs, e, z, hd⟩, ⟨oe, e⟩, fun _ _ ⟨o, v, q, r⟩ k => ⟨o, v, k o q, r⟩⟩
section
variable {X : Cx} {C fI : Addr} {fld : Str}
/-- C(e) as a value, C's __init__ as in Low -/
theorem pe_lowV {a : Expr} {ta : TA} {x : Str} {p pos : Pos} {k : Nat} (T : Lo.LowC X.prog X.K C fI fld) (gC : X.mg x = some (.ref C)) (hr : Room k X.A) (ha : PA X [a] ta) (hg : Gl X x := by rfl) (hdb : (x == ("__debug__" : Str)) = false := by decide)
    (he : starEach (a :: []) X.env = (false, eval a X.env) :: starEach [] X.env := by rfl) (hpl : (backTo pos (starEach [] X.env)).any (·.1) = false := by rfl) :
    PE X (.Call (.Name x p) [a] [] pos) (fun σ H Q => ta σ H fun vs H1 => ∃ v, vs = [v] ∧ ∀ e d, H1 e = none → H1 d = none → d ≠ e → Q (.ref e) (upd (upd H1 d (.xd [(fld, v)])) e (ExL C d e))) := by
  refine ⟨fun pins s σ H Q I h => ?_⟩
  refine wpAny_Call_Name_kw (ld_glob I hg gC ?_ hdb)
  refine PySem.W.callWith_K (h₀ := X.base) I.ok.mod.kin T.kC (thn (ha.run pos pins s σ H _ I h) fun us s1 hh => ?_) he hpl
  obtain ⟨vs, H1, I1, r1, v, ev, q1⟩ := hh
  subst ev
  refine ⟨I1.kIn, ?_⟩
  cases r1 with
  | cons rv rn =>
    rename_i v' us'
    cases rn
    show wpAny _ _ (call (.ref C) [v']) _ _ _
    have hlim := I1.nolimit
    obtain ⟨mb, hb1, hb2⟩ := I1.mod.blt
    have hb3 : s1.heap.Ns builtinsNs mb := hb1.keeps I1.bk
    have hg3 : s1.heap.Ns mainGlobals X.mg := I1.mod.glob.keeps I1.bk
    obtain ⟨hp, g, dr, tk, os⟩ := s1
    refine wpAny_call (Lo.low_made T I1.kIn hlim hg3 hb3 (hb2 "super" (by decide +kernel)) (by have := hr.dp; omega) fun h' tk' e d M => ?_)
    obtain ⟨oe, fv, hoe, hc, hd, hdat, _⟩ := M.obj
    have ne1 : hp.get? e = none := Heap.get?_none_of_le M.new
    have hne : H1 e = none := I1.hok.fresh M.new
    have hnd : H1 d = none := I1.hok.fresh M.dbig
    have ob : ObjOk X.prog X.w (upd H1 d (.xd [(fld, v)])) h' d (.xd [(fld, v)]) := ⟨_, M.ns, fun f => relO_one rv f⟩
    have J : Inv X pins σ (upd H1 d (.xd [(fld, v)])) ⟨h', g, dr, tk', os⟩ := I1.laid (t' := tk') M.keep M.dbig ob
    have hne2 : upd H1 d (.xd [(fld, v)]) e = none := by rw [upd_ne (Ne.symm M.dne)]; exact hne
    have U : Un X.fs [] H1 (upd (upd H1 d (.xd [(fld, v)])) e (ExL C d e)) hp h' := {
      keep := fun b o q n _ _ => M.keep b o q
      slot := fun b o q n _ _ => ⟨o.slots, M.keep b o q⟩
      free := fun b o q n _ => by
        rw [upd_ne (Nat.ne_of_lt (Nat.lt_of_lt_of_le (Heap.lt_size q) M.new)), upd_ne (Nat.ne_of_lt (Nat.lt_of_lt_of_le (Heap.lt_size q) M.dbig))]
        exact n
      there := fun b o q _ => ⟨o, M.keep b o q⟩
      tups := fun b xs q => by
        rw [upd_ne (ne_of_none q hne), upd_ne (ne_of_none q hnd)]
        exact q
      frzs := fun b o u q => by
        rw [upd_ne (ne_of_none q hne), upd_ne (ne_of_none q hnd)]
        exact q
      tbls := fun b ps q => ⟨#[], by rw [upd_ne (ne_of_none q hne), upd_ne (ne_of_none q hnd), q]; simp⟩ }
    have hok : HOk X.prog X.w (upd (upd H1 d (.xd [(fld, v)])) e (ExL C d e)) h' := J.hok.laidN (h' := h') (fun b u q => q) hne2 (exL_ok hoe ⟨hc, hd⟩ hdat)
    exact ⟨.ref e, _, I1.un (t' := tk') U hok, rfl, q1 e d hne hnd M.dne⟩
end
/-- what the class must say, so that isinstance asks its instances rightly -/
def xcB (K : PySem.W.Frag) (D : Addr) : Bool := (PySem.W.clsIn K D).isSome && (decide (PySem.W.findIn K (.ref D) "__getattribute__" = some (some (.builtin "BaseException.__getattribute__"))) && (decide (PySem.W.findIn K (.ref D) "__getattr__" = some none) &&
  (decide (PySem.W.subIn K (.ref D) (.type "BaseException") = some true) && (decide (PySem.W.findIn K (.ref D) "__class__" = some (some (.builtin "object.__class__"))) &&
  (decide (PySem.W.specialIn K (.builtin "object.__class__") "__get__" = some (some (.builtin "getset_descriptor.__get__"))) && (decide (PySem.W.takesIn K (.builtin "object.__class__") = some true) && decide (PySem.W.mroIn K D (.type "object") = some true)))))))
theorem xcB_kit {K : PySem.W.Frag} {D x : Addr} {ox : Obj} {od : Option Obj} (h : xcB K D = true) : PySem.W.KitX K (.ref x) (.ref D) (fun h => PySem.W.InstAt h x ox D od) := by
  unfold xcB at h
  simp only [Bool.and_eq_true, decide_eq_true_eq] at h
  obtain ⟨h1, h2, h3, h4, h5, h6, h7, h8⟩ := h
  exact PySem.W.kitx_exc h1 h2 h3 h4 h5 h6 h7 h8
/-- isinstance(e, (c1, ..)), e an exception object that is tracked -/
def rIsX (K : PySem.W.Frag) : List V → Hp → VK → Prop := fun xs H Q => ∃ (D a tp : Addr) (cs : List V) (us : List Value) (b : Bool), xs = [.ref a, .ref tp] ∧ xcB K D = true ∧
  (H a = some (ExO (.ref D) a) ∨ ∃ d fs, H a = some (ExL D d a) ∧ H d = some (.xd fs)) ∧ H tp = some (.tup cs) ∧ Paired ClsV cs us ∧ PySem.W.kitAny K (.ref D) us = some b ∧ Q (.bl b) H
theorem call_isX {X : Cx} : CallR X (.builtin "isinstance") (rIsX X.K) := by
  intro pins s σ H xs us Q I r h
  obtain ⟨D, a, tp, cs, ws, b, rfl, hx, ha, hT, k, e, q⟩ := h
  obtain ⟨u1, u2, rfl, r1, r2⟩ := vals2 r
  cases (show u1 = Value.ref a from r1)
  cases (show u2 = Value.ref tp from r2)
  obtain ⟨_, its, rv, o, h1, h2, n, h3⟩ := (show ObjOk X.prog X.w H s.heap tp (.tup cs) from I.hok tp _ hT)
  have e3 := ClsV.all k rv
  subst e3
  obtain ⟨oc, od, dt, sl⟩ := o
  simp only at h2 h3
  subst h2 h3
  have fin : ∀ (ox : Obj) (od : Option Obj), PySem.W.InstAt s.heap a ox D od → wpAny (model X.prog X.w) X.A (call (.builtin "isinstance") [.ref a, .ref tp]) (EP X pins σ Q) X.xe s := fun ox od J =>
    PySem.W.kia_tup (xcB_kit hx) I.kIn J h1 e (fun z => nomatch z) fun tk => ⟨.bl b, H, I.tok tk, rfl, q⟩
  rcases ha with ha | ⟨d, fs, ha, hd⟩
  · obtain ⟨⟨oe, vs, ho, hz, hdat, _⟩, _, _⟩ := I.hok a _ ha
    exact fin oe none ⟨ho, hz.1, by unfold PySem.W.notCls; rw [hdat] <;> rfl, by rw [hz.2]; trivial⟩
  · obtain ⟨⟨oe, vs, ho, hz, hdat⟩, _, _⟩ := I.hok a _ ha
    have hx2 : ObjOk X.prog X.w H s.heap d (.xd fs) := I.hok d _ hd
    obtain ⟨mA, ⟨od, es, ep, e1, e2, _⟩, _⟩ := hx2
    exact fin oe (some od) ⟨ho, hz.1, by unfold PySem.W.notCls; rw [hdat] <;> rfl, by rw [hz.2]; exact e1⟩
end L2

/-! Kit: defs and methods in bundles, their calls (also where something may be raised); what a heap keeps. -/
namespace L2
open PySem PySem.Spec PyProof.Rows
abbrev CXr (P : Program) (w : World) : CXT := L2.CX P w
/-- the module's name x is a def that keeps sp -/
structure DefOk (P : Program) (w : World) (K : PySem.W.Frag) (mg : Str → Option Value) (base : Heap) (CX : CXT) (k : Nat) (x : Str) (ps : List Str) (sp : Sp) : Prop where
  ex : ∃ f fd, mg x = some (.ref f) ∧ PySem.W.keepIn K (.ref f) = true ∧ Binds K fd ps [] ∧ FnOk P w K mg base CX k f fd ps sp
/-- the class at C has the method m, which keeps sp -/
structure MethOk (P : Program) (w : World) (K : PySem.W.Frag) (mg : Str → Option Value) (base : Heap) (CX : CXT) (k : Nat) (C : Addr) (m : Str) (ps : List Str) (sp : Sp) : Prop where
  ex : ∃ f fd, Meth K C m f ∧ Binds K fd ps [] ∧ FnOk P w K mg base CX k f fd ps sp
theorem DefOk.mono {P : Program} {w : World} {K : PySem.W.Frag} {mg : Str → Option Value} {base : Heap} {CX : CXT} {j k : Nat} {x : Str} {ps : List Str} {sp : Sp} (G : DefOk P w K mg base CX j x ps sp) (h : j ≤ k) : DefOk P w K mg base CX k x ps sp := by
  obtain ⟨f, fd, a, b, c, d⟩ := G.ex
  exact ⟨f, fd, a, b, c, d.mono h⟩
theorem MethOk.mono {P : Program} {w : World} {K : PySem.W.Frag} {mg : Str → Option Value} {base : Heap} {CX : CXT} {j k : Nat} {C : Addr} {m : Str} {ps : List Str} {sp : Sp} (G : MethOk P w K mg base CX j C m ps sp) (h : j ≤ k) : MethOk P w K mg base CX k C m ps sp := by
  obtain ⟨f, fd, a, b, c⟩ := G.ex
  exact ⟨f, fd, a, b, c.mono h⟩
section
variable {X : Cx} {W : WX} {k : Nat} {C : Addr} {ps : List Str} {sp : Sp} {x m : Str} {p pos apos : Pos} {e o : Expr} {es : List Expr} {ta : TE} {t : TA}
theorem pe_D (G : DefOk X.prog X.w X.K X.mg X.base CX0 k x ps sp) (hr : Room k X.A) (ha : PA X (e :: es) t) (hg : Gl X x := by rfl) (hdb : (x == ("__debug__" : Str)) = false := by decide) (he : starEach (e :: es) X.env = (false, eval e X.env) :: starEach es X.env := by rfl)
    (hpl : (backTo pos (starEach es X.env)).any (·.1) = false := by rfl) : PE X (.Call (.Name x p) (e :: es) [] pos) (tCall sp [] E0 t) := by
  obtain ⟨f, fd, hm, hk, hb, F⟩ := G.ex
  exact pe_call F hr hg hm hk hb .nil pass0 ha hdb he hpl
theorem pe_D0 (G : DefOk X.prog X.w X.K X.mg X.base CX0 k x ps sp) (hr : Room k X.A) (hg : Gl X x := by rfl) (hdb : (x == ("__debug__" : Str)) = false := by decide) : PE X (.Call (.Name x p) [] [] pos) (tCall sp [] E0 tNil) := by
  obtain ⟨f, fd, hm, hk, hb, F⟩ := G.ex
  exact pe_call0 F hr hg hm hk hb .nil pass0 hdb
/-- a call that may raise: what is raised goes to W -/
theorem pe_Dx (G : DefOk X.prog X.w X.K X.mg X.base (CXr X.prog X.w) k x ps sp) (hr : Room k X.A) (tk : Takes X W) (ha : PA X (e :: es) t) (hg : Gl X x := by rfl) (hdb : (x == ("__debug__" : Str)) = false := by decide)
    (he : starEach (e :: es) X.env = (false, eval e X.env) :: starEach es X.env := by rfl) (hpl : (backTo pos (starEach es X.env)).any (·.1) = false := by rfl) : PE X (.Call (.Name x p) (e :: es) [] pos) (tCallS sp (WE W) t) := by
  obtain ⟨f, fd, hm, hk, hb, F⟩ := G.ex
  exact pe_callS F hr hg hm hk hb (fun σ => passAt tk σ) ha hdb he hpl
theorem pe_M {pl : Sem Bool} (G : MethOk X.prog X.w X.K X.mg X.base CX0 k C m ps sp) (hr : Room k X.A) (c : Cls X.K C) (he : PE X o ta) (ha : PA X (e :: es) t)
    (hst : starEach (e :: es) X.env = (false, eval e X.env) :: starEach es X.env := by rfl) (hpl : (backTo pos (starEach es X.env)).any (·.1) = false := by rfl)
    (ht : eval (.Call (.Attribute o m apos) (e :: es) [] pos) X.env = (do
      let ov ← eval o X.env
      standAt apos.atName
      let (f, first) ← holding [ov] (getMethod ov m pl)
      callWith pos f first (backTo pos (starEach (e :: es) X.env)) (backToKw pos (keywordEach [] X.env))) := by rfl) :
    PE X (.Call (.Attribute o m apos) (e :: es) [] pos) (tMeth C m sp [] E0 ta t) := by
  obtain ⟨f, fd, hm, hb, F⟩ := G.ex
  exact pe_meth he c hm F hr hb .nil pass0 ha hst hpl ht
theorem pe_M0 {pl : Sem Bool} (G : MethOk X.prog X.w X.K X.mg X.base CX0 k C m ps sp) (hr : Room k X.A) (c : Cls X.K C) (he : PE X o ta)
    (ht : eval (.Call (.Attribute o m apos) [] [] pos) X.env = (do
      let ov ← eval o X.env
      standAt apos.atName
      let (f, first) ← holding [ov] (getMethod ov m pl)
      callWith pos f first (backTo pos (starEach [] X.env)) (backToKw pos (keywordEach [] X.env))) := by rfl) :
    PE X (.Call (.Attribute o m apos) [] [] pos) (tMeth C m sp [] E0 ta tNil) := by
  obtain ⟨f, fd, hm, hb, F⟩ := G.ex
  exact pe_meth0 he c hm F hr hb .nil pass0 ht
/-- o.m(..) of an instance of the class at C, what is raised goes to W -/
def tMethX (C : Addr) (m : Str) (sp : Sp) (E : St → XK) (ta : TE) (t : TA) : TE := fun σ H Q => ta σ H fun x H1 => ∃ a dx fs, x = .ref a ∧ H1 a = some (.ins C dx fs) ∧ fs.lookup m = none ∧
  t σ H1 fun vs H2 => sp (x :: vs) H2 Q (E σ)
theorem pe_Mx {pl : Sem Bool} (G : MethOk X.prog X.w X.K X.mg X.base (CXr X.prog X.w) k C m ps sp) (hr : Room k X.A) (tk : Takes X W) (c : Cls X.K C) (he : PE X o ta) (ha : PA X (e :: es) t)
    (hst : starEach (e :: es) X.env = (false, eval e X.env) :: starEach es X.env := by rfl) (hpl : (backTo pos (starEach es X.env)).any (·.1) = false := by rfl)
    (ht : eval (.Call (.Attribute o m apos) (e :: es) [] pos) X.env = (do
      let ov ← eval o X.env
      standAt apos.atName
      let (f, first) ← holding [ov] (getMethod ov m pl)
      callWith pos f first (backTo pos (starEach (e :: es) X.env)) (backToKw pos (keywordEach [] X.env))) := by rfl) :
    PE X (.Call (.Attribute o m apos) (e :: es) [] pos) (tMethX C m sp (WE W) ta t) := by
  obtain ⟨f, fd, hm, hb, F⟩ := G.ex
  refine ⟨fun pins s σ H Q I h => ?_⟩
  refine PySem.W.methodCall_KW (pl := pl) (thn (he.run pins s σ H _ I h) fun u s1 ⟨x, H1, I1, rx, a, dx, fs, ex, ea, l, q⟩ => ?_) ht
  subst ex
  obtain rfl : u = Value.ref a := rx
  refine getmeth_ok I1 ea c hm l ?_
  refine PySem.W.callWith_K (first := [.ref a]) (h₀ := X.base) I.ok.mod.kin hm.kp (thn (ha.run pos pins s1 σ H1 _ I1 q) fun us s2 ⟨vs, H2, I2, r, q2⟩ => ⟨I2.kIn, ?_⟩) hst hpl
  exact run_fnS (E := WE W) (us := .ref a :: us) (vs := .ref a :: vs) F hr hb (passAt tk σ) I2 (.cons rfl r) q2
theorem pe_Mx0 {pl : Sem Bool} (G : MethOk X.prog X.w X.K X.mg X.base (CXr X.prog X.w) k C m ps sp) (hr : Room k X.A) (tk : Takes X W) (c : Cls X.K C) (he : PE X o ta)
    (ht : eval (.Call (.Attribute o m apos) [] [] pos) X.env = (do
      let ov ← eval o X.env
      standAt apos.atName
      let (f, first) ← holding [ov] (getMethod ov m pl)
      callWith pos f first (backTo pos (starEach [] X.env)) (backToKw pos (keywordEach [] X.env))) := by rfl) :
    PE X (.Call (.Attribute o m apos) [] [] pos) (tMethX C m sp (WE W) ta tNil) := by
  obtain ⟨f, fd, hm, hb, F⟩ := G.ex
  refine ⟨fun pins s σ H Q I h => ?_⟩
  refine PySem.W.methodCall_KW (pl := pl) (thn (he.run pins s σ H _ I h) fun u s1 ⟨x, H1, I1, rx, a, dx, fs, ex, ea, l, q⟩ => ?_) ht
  subst ex
  obtain rfl : u = Value.ref a := rx
  refine getmeth_ok I1 ea c hm l ?_
  exact PySem.W.callWith_K0 (first := [.ref a]) I1.kIn hm.kp (run_fnS (E := WE W) (us := [.ref a]) (vs := [.ref a]) F hr hb (passAt tk σ) I1 (.cons rfl .nil) q)
/-- the statement's end of a def: raise, calls that raise go up -/
theorem takes_up {P : Program} {w : World} {K : PySem.W.Frag} {mg : Str → Option Value} {base : Heap} {N : List Str} {q : Str} {sc : Scope} {f : Addr} {cdv : Value} {A : Around} {outer : List Env} {s : Shared} {H : Hp} {E : XK} :
    Takes (cxOf (CXr P w) P w K mg base N q sc f cdv A outer s H E) (fun cls d _ H => E cls d H) := takes_of rfl rfl rfl rfl
end
theorem PSs.same {X : Cx} {st : List Stmt} {t : TS} (h : PSs X st t) : PSs X st t := h
section
variable {P : Program} {w : World} {K : PySem.W.Frag} {mg : Str → Option Value} {base : Heap}
/-- a def of the text, whose body is given as a term and its reading -/
theorem mk_def {x : Str} {st : Stmt} {f : Addr} {fd : FuncData} {N ps : List Str} {k : Nat} {sp : Sp} (F : FunD K x x (defArgs st) (defBody st) (defScope st) [] [] f fd) (m : mg x = some (.ref f)) (b : Binds K fd ps []) (S : FnScope N ps (defScope st))
    (len : ∀ vs H Q E, sp vs H Q E → vs.length = ps.length)
    (hbody : ∀ (cdv : Value) (A : Around) (outer : List Env) (s : Shared) (H : Hp) (vs : List V) (Q : VK) (E : XK), Room k (A.deeper (envOfC x (defScope st) s.heap.objs.size f cdv)) → sp vs H Q E →
      ∃ t, PSs (cxOf CX0 P w K mg base N x (defScope st) f cdv A outer s H E) (defBody st) t ∧ t { nx := fun _ H' => Q .non H', rt := Q } (start N vs) H) : DefOk P w K mg base CX0 (k + 1) x ps sp :=
  ⟨f, fd, m, F.kp, b, F.ok S len hbody⟩
theorem mk_defX {x : Str} {st : Stmt} {f : Addr} {fd : FuncData} {N ps : List Str} {k : Nat} {sp : Sp} (F : FunD K x x (defArgs st) (defBody st) (defScope st) [] [] f fd) (m : mg x = some (.ref f)) (b : Binds K fd ps []) (S : FnScope N ps (defScope st))
    (len : ∀ vs H Q E, sp vs H Q E → vs.length = ps.length)
    (hbody : ∀ (cdv : Value) (A : Around) (outer : List Env) (s : Shared) (H : Hp) (vs : List V) (Q : VK) (E : XK), Room k (A.deeper (envOfC x (defScope st) s.heap.objs.size f cdv)) → sp vs H Q E →
      ∃ t, PSs (cxOf (CXr P w) P w K mg base N x (defScope st) f cdv A outer s H E) (defBody st) t ∧ t { nx := fun _ H' => Q .non H', rt := Q } (start N vs) H) : DefOk P w K mg base (CXr P w) (k + 1) x ps sp :=
  ⟨f, fd, m, F.kp, b, F.ok S len hbody⟩
theorem mk_meth {C : Addr} {m q : Str} {st : Stmt} {f : Addr} {fd : FuncData} {N ps : List Str} {k : Nat} {sp : Sp} (F : FunD K m q (defArgs st) (defBody st) (defScope st) [] [] f fd) (M : Meth K C m f) (b : Binds K fd ps []) (S : FnScope N ps (defScope st))
    (len : ∀ vs H Q E, sp vs H Q E → vs.length = ps.length)
    (hbody : ∀ (cdv : Value) (A : Around) (outer : List Env) (s : Shared) (H : Hp) (vs : List V) (Q : VK) (E : XK), Room k (A.deeper (envOfC q (defScope st) s.heap.objs.size f cdv)) → sp vs H Q E →
      ∃ t, PSs (cxOf CX0 P w K mg base N q (defScope st) f cdv A outer s H E) (defBody st) t ∧ t { nx := fun _ H' => Q .non H', rt := Q } (start N vs) H) : MethOk P w K mg base CX0 (k + 1) C m ps sp :=
  ⟨f, fd, M, b, F.ok S len hbody⟩
theorem mk_methX {C : Addr} {m q : Str} {st : Stmt} {f : Addr} {fd : FuncData} {N ps : List Str} {k : Nat} {sp : Sp} (F : FunD K m q (defArgs st) (defBody st) (defScope st) [] [] f fd) (M : Meth K C m f) (b : Binds K fd ps []) (S : FnScope N ps (defScope st))
    (len : ∀ vs H Q E, sp vs H Q E → vs.length = ps.length)
    (hbody : ∀ (cdv : Value) (A : Around) (outer : List Env) (s : Shared) (H : Hp) (vs : List V) (Q : VK) (E : XK), Room k (A.deeper (envOfC q (defScope st) s.heap.objs.size f cdv)) → sp vs H Q E →
      ∃ t, PSs (cxOf (CXr P w) P w K mg base N q (defScope st) f cdv A outer s H E) (defBody st) t ∧ t { nx := fun _ H' => Q .non H', rt := Q } (start N vs) H) : MethOk P w K mg base (CXr P w) (k + 1) C m ps sp :=
  ⟨f, fd, M, b, F.ok S len hbody⟩
end
end L2

/-! Own: colours of addresses; what a step keeps; data by colours. -/
namespace L2
open PySem PySem.Spec PyProof.Rows
abbrev Col := Addr → Nat
def cset (c : Col) (p : Addr) (k : Nat) : Col := fun b => if b = p then k else c b
theorem cset_same {c : Col} {p : Addr} {k : Nat} : cset c p k p = k := if_pos rfl
theorem cset_ne {c : Col} {p b : Addr} {k : Nat} (h : b ≠ p) : cset c p k b = c b := if_neg h
/-- from (c, H) to (c', H') nothing changes but what is new and what bears a colour of I -/
structure Keeps (I : Nat → Prop) (c : Col) (H : Hp) (c' : Col) (H' : Hp) : Prop where
  col : ∀ b o, H b = some o → c' b = c b
  keep : ∀ b o, H b = some o → ¬ I (c b) → H' b = some o
  live : ∀ b o, H b = some o → ∃ o', H' b = some o'
abbrev None' : Nat → Prop := fun _ => False
section
variable {I J : Nat → Prop} {c c' c'' : Col} {H H' H'' : Hp} {p a : Addr} {o : HO} {k : Nat}
theorem Keeps.refl : Keeps I c H c H := ⟨fun _ _ _ => rfl, fun _ _ h _ => h, fun _ o h => ⟨o, h⟩⟩
theorem Keeps.trans (x : Keeps I c H c' H') (y : Keeps I c' H' c'' H'') : Keeps I c H c'' H'' where
  col := fun b o h => by
    obtain ⟨o', h'⟩ := x.live b o h
    rw [y.col b o' h', x.col b o h]
  keep := fun b o h n => y.keep b o (x.keep b o h n) (by rw [x.col b o h]; exact n)
  live := fun b o h => by
    obtain ⟨o', h'⟩ := x.live b o h
    exact y.live b o' h'
theorem Keeps.mono (x : Keeps I c H c' H') (h : ∀ n, I n → J n) : Keeps J c H c' H' := ⟨x.col, fun b o q n => x.keep b o q fun z => n (h _ z), x.live⟩
theorem Keeps.any (x : Keeps None' c H c' H') : Keeps I c H c' H' := x.mono fun _ z => z.elim
theorem Keeps.fresh (x : Keeps I c H c' H') (h : H' p = none) : H p = none := by
  cases q : H p with
  | none => rfl
  | some o =>
    obtain ⟨o', z⟩ := x.live p o q
    rw [h] at z
    cases z
/-- a new object -/
theorem Keeps.new (x : Keeps I c H c' H') (h : H' p = none) : Keeps I c H (cset c' p k) (upd H' p o) := by
  have hp := x.fresh h
  refine ⟨fun b u q => ?_, fun b u q n => ?_, fun b u q => ?_⟩
  · rw [cset_ne (ne_of_none q hp)]
    exact x.col b u q
  · rw [upd_ne (ne_of_none q hp)]
    exact x.keep b u q n
  · obtain ⟨u', q'⟩ := x.live b u q
    exact ⟨u', by rw [upd_ne (ne_of_none q hp)]; exact q'⟩
/-- an object that wasn't there at the start is changed, or takes another colour -/
theorem Keeps.own (x : Keeps I c H c' H') (h : H p = none) : Keeps I c H c' (upd H' p o) :=
  ⟨x.col, fun b u q n => by rw [upd_ne (ne_of_none q h)]; exact x.keep b u q n, fun b u q => by rw [upd_ne (ne_of_none q h)]; exact x.live b u q⟩
theorem Keeps.recol (x : Keeps I c H c' H') (h : H p = none) : Keeps I c H (cset c' p k) H' :=
  ⟨fun b u q => by rw [cset_ne (ne_of_none q h)]; exact x.col b u q, x.keep, x.live⟩
/-- an object of a colour of I is changed -/
theorem Keeps.put (x : Keeps I c H c' H') (h : I (c' a)) : Keeps I c H c' (upd H' a o) := by
  refine ⟨x.col, fun b u q n => ?_, fun b u q => ?_⟩
  · have ne : b ≠ a := fun z => n (by rw [← x.col b u q, z]; exact h)
    rw [upd_ne ne]
    exact x.keep b u q n
  · by_cases z : b = a
    · subst z
      exact ⟨o, upd_same⟩
    · rw [upd_ne z]
      exact x.live b u q
theorem Keeps.at (x : Keeps I c H c' H') (h : H a = some o) (n : ¬ I (c a)) : H' a = some o := x.keep a o h n
end

/-! ### data -/
inductive D where
  | non | bl (b : Bool) | int (i : Int) | str (s : Str) | lst (ds : List D) | tup (ds : List D) | dic (ks : List (Key × D))
/-- a list, a tuple at a that bears the colour k, or one of the written part -/
def LsAt (K : PySem.W.Frag) (k : Nat) (c : Col) (H : Hp) (a : Addr) (vs : List V) : Prop := (c a = k ∧ H a = some (.lst vs)) ∨ SqL K (fun _ => none) a vs
def TpAt (K : PySem.W.Frag) (k : Nat) (c : Col) (H : Hp) (a : Addr) (vs : List V) : Prop := (c a = k ∧ H a = some (.tup vs)) ∨ SqT K (fun _ => none) a vs
mutual
inductive Is (K : PySem.W.Frag) (k : Nat) (c : Col) (H : Hp) : D → V → Prop
  | non : Is K k c H .non .non
  | bl (b : Bool) : Is K k c H (.bl b) (.bl b)
  | int (i : Int) : Is K k c H (.int i) (.int i)
  | str (s : Str) : Is K k c H (.str s) (.str s)
  | lst {a : Addr} {ds : List D} {vs : List V} (h : LsAt K k c H a vs) (r : Iss K k c H ds vs) : Is K k c H (.lst ds) (.ref a)
  | tup {a : Addr} {ds : List D} {vs : List V} (h : TpAt K k c H a vs) (r : Iss K k c H ds vs) : Is K k c H (.tup ds) (.ref a)
  | dic {a : Addr} {ks : List (Key × D)} {kvs : List (Key × V)} (h : c a = k ∧ H a = some (.dK kvs)) (r : Isk K k c H ks kvs) : Is K k c H (.dic ks) (.ref a)
inductive Iss (K : PySem.W.Frag) (k : Nat) (c : Col) (H : Hp) : List D → List V → Prop
  | nil : Iss K k c H [] []
  | cons {d : D} {v : V} {ds : List D} {vs : List V} (h : Is K k c H d v) (r : Iss K k c H ds vs) : Iss K k c H (d :: ds) (v :: vs)
inductive Isk (K : PySem.W.Frag) (k : Nat) (c : Col) (H : Hp) : List (Key × D) → List (Key × V) → Prop
  | nil : Isk K k c H [] []
  | cons {q : Key} {d : D} {v : V} {ds : List (Key × D)} {vs : List (Key × V)} (h : Is K k c H d v) (r : Isk K k c H ds vs) : Isk K k c H ((q, d) :: ds) ((q, v) :: vs)
end
section
variable {K : PySem.W.Frag} {I : Nat → Prop} {k : Nat} {c c' : Col} {H H' : Hp} {a p : Addr} {vs : List V} {v : V} {d : D} {ds : List D} {o : HO}
theorem sql_empty (h : SqL K (fun _ => none) a vs) : SqL K H a vs := by
  rcases h with h | h
  · rcases h with h | ⟨o, h⟩ <;> cases h
  · exact .inr h
theorem sqt_empty (h : SqT K (fun _ => none) a vs) : SqT K H a vs := by
  rcases h with h | h
  · rcases h with h | ⟨o, h⟩ <;> cases h
  · exact .inr h
theorem LsAt.sq (h : LsAt K k c H a vs) : SqL K H a vs := by
  rcases h with ⟨_, h⟩ | h
  · exact .inl (.inl h)
  · exact sql_empty h
theorem TpAt.sq (h : TpAt K k c H a vs) : SqT K H a vs := by
  rcases h with ⟨_, h⟩ | h
  · exact .inl (.inl h)
  · exact sqt_empty h
theorem LsAt.mk (h1 : c a = k) (h : H a = some (.lst vs)) : LsAt K k c H a vs := .inl ⟨h1, h⟩
theorem TpAt.mk (h1 : c a = k) (h : H a = some (.tup vs)) : TpAt K k c H a vs := .inl ⟨h1, h⟩
theorem Rd.keep (x : Keeps I c H c' H') (h : Rd H a o) (n : ¬ I (c a)) : Rd H' a o := by
  rcases h with h | ⟨ob, h⟩
  · exact .inl (x.keep a _ h n)
  · exact .inr ⟨ob, x.keep a _ h n⟩
theorem Rd.col (x : Keeps I c H c' H') (h : Rd H a o) : c' a = c a := by
  rcases h with h | ⟨ob, h⟩
  · exact x.col a _ h
  · exact x.col a _ h
theorem LsAt.keep (x : Keeps I c H c' H') (n : ¬ I k) (h : LsAt K k c H a vs) : LsAt K k c' H' a vs := by
  rcases h with ⟨h1, h⟩ | h
  · exact .inl ⟨by rw [x.col _ _ h]; exact h1, x.keep _ _ h (by rw [h1]; exact n)⟩
  · exact .inr h
theorem TpAt.keep (x : Keeps I c H c' H') (n : ¬ I k) (h : TpAt K k c H a vs) : TpAt K k c' H' a vs := by
  rcases h with ⟨h1, h⟩ | h
  · exact .inl ⟨by rw [x.col _ _ h]; exact h1, x.keep _ _ h (by rw [h1]; exact n)⟩
  · exact .inr h
mutual
theorem Is.keep (x : Keeps I c H c' H') (n : ¬ I k) : ∀ {d : D} {v : V}, Is K k c H d v → Is K k c' H' d v
  | _, _, .non => .non
  | _, _, .bl b => .bl b
  | _, _, .int i => .int i
  | _, _, .str s => .str s
  | _, _, .lst h r => .lst (h.keep x n) (Iss.keep x n r)
  | _, _, .tup h r => .tup (h.keep x n) (Iss.keep x n r)
  | _, _, .dic h r => .dic ⟨by rw [x.col _ _ h.2]; exact h.1, x.keep _ _ h.2 (by rw [h.1]; exact n)⟩ (Isk.keep x n r)
theorem Iss.keep (x : Keeps I c H c' H') (n : ¬ I k) : ∀ {ds : List D} {vs : List V}, Iss K k c H ds vs → Iss K k c' H' ds vs
  | _, _, .nil => .nil
  | _, _, .cons h r => .cons (Is.keep x n h) (Iss.keep x n r)
theorem Isk.keep (x : Keeps I c H c' H') (n : ¬ I k) : ∀ {ds : List (Key × D)} {vs : List (Key × V)}, Isk K k c H ds vs → Isk K k c' H' ds vs
  | _, _, .nil => .nil
  | _, _, .cons h r => .cons (Is.keep x n h) (Isk.keep x n r)
end
/-- an object takes the colour k -/
theorem LsAt.recol (h : LsAt K k c H a vs) : LsAt K k (cset c p k) H a vs := by
  rcases h with ⟨h1, h⟩ | h
  · refine .inl ⟨?_, h⟩
    by_cases z : a = p
    · rw [z, cset_same]
    · rw [cset_ne z]
      exact h1
  · exact .inr h
theorem TpAt.recol (h : TpAt K k c H a vs) : TpAt K k (cset c p k) H a vs := by
  rcases h with ⟨h1, h⟩ | h
  · refine .inl ⟨?_, h⟩
    by_cases z : a = p
    · rw [z, cset_same]
    · rw [cset_ne z]
      exact h1
  · exact .inr h
mutual
theorem Is.recol : ∀ {d : D} {v : V}, Is K k c H d v → Is K k (cset c p k) H d v
  | _, _, .non => .non
  | _, _, .bl b => .bl b
  | _, _, .int i => .int i
  | _, _, .str s => .str s
  | _, _, .lst h r => .lst h.recol (Iss.recol r)
  | _, _, .tup h r => .tup h.recol (Iss.recol r)
  | _, _, .dic (a := a) h r => .dic ⟨by
      by_cases z : a = p
      · rw [z, cset_same]
      · rw [cset_ne z]
        exact h.1, h.2⟩ (Isk.recol r)
theorem Iss.recol : ∀ {ds : List D} {vs : List V}, Iss K k c H ds vs → Iss K k (cset c p k) H ds vs
  | _, _, .nil => .nil
  | _, _, .cons h r => .cons (Is.recol h) (Iss.recol r)
theorem Isk.recol : ∀ {ds : List (Key × D)} {vs : List (Key × V)}, Isk K k c H ds vs → Isk K k (cset c p k) H ds vs
  | _, _, .nil => .nil
  | _, _, .cons h r => .cons (Is.recol h) (Isk.recol r)
end
/-- what is new here: kept in place -/
theorem keeps_new {q : Nat} (h : H p = none) : Keeps I c H (cset c p q) (upd H p o) := Keeps.refl.new h
theorem keeps_put (h : I (c a)) : Keeps I c H c (upd H a o) := Keeps.refl.put h
/-- an object of another colour is changed -/
theorem Is.put (h : Is K k c H d v) (n : c a ≠ k) : Is K k c (upd H a o) d v :=
  Is.keep (I := fun z => z = c a) (keeps_put rfl) (fun z => n z.symm) h
theorem Iss.put (h : Iss K k c H ds vs) (n : c a ≠ k) : Iss K k c (upd H a o) ds vs :=
  Iss.keep (I := fun z => z = c a) (keeps_put rfl) (fun z => n z.symm) h
theorem Is.new {q : Nat} (h : Is K k c H d v) (n : H p = none) : Is K k (cset c p q) (upd H p o) d v := Is.keep (I := None') (keeps_new n) (fun z => z) h
theorem Iss.new {q : Nat} (h : Iss K k c H ds vs) (n : H p = none) : Iss K k (cset c p q) (upd H p o) ds vs := Iss.keep (I := None') (keeps_new n) (fun z => z) h
theorem Iss.len : ∀ {ds : List D} {vs : List V}, Iss K k c H ds vs → ds.length = vs.length
  | _, _, .nil => rfl
  | _, _, .cons _ r => congrArg (· + 1) (Iss.len r)
theorem Iss.get : ∀ {ds : List D} {vs : List V} {i : Nat} {d : D}, Iss K k c H ds vs → ds[i]? = some d → ∃ v, vs[i]? = some v ∧ Is K k c H d v
  | _, _, _, _, .nil, e => by simp at e
  | _, _, 0, _, .cons h _, e => ⟨_, rfl, by simp at e; rw [← e]; exact h⟩
  | _, _, i + 1, _, .cons _ r, e => by
    obtain ⟨v, h1, h2⟩ := Iss.get (i := i) r (by simpa using e)
    exact ⟨v, by simpa using h1, h2⟩
theorem Iss.getV : ∀ {ds : List D} {vs : List V} {i : Nat} {v : V}, Iss K k c H ds vs → vs[i]? = some v → ∃ d, ds[i]? = some d ∧ Is K k c H d v
  | _, _, _, _, .nil, e => by simp at e
  | _, _, 0, _, .cons h _, e => ⟨_, rfl, by simp at e; rw [← e]; exact h⟩
  | _, _, i + 1, _, .cons _ r, e => by
    obtain ⟨d, h1, h2⟩ := Iss.getV (i := i) r (by simpa using e)
    exact ⟨d, by simpa using h1, h2⟩
theorem Iss.app : ∀ {ds es : List D} {vs us : List V}, Iss K k c H ds vs → Iss K k c H es us → Iss K k c H (ds ++ es) (vs ++ us)
  | _, _, _, _, .nil, s => s
  | _, _, _, _, .cons h r, s => .cons h (Iss.app r s)
theorem Iss.one (h : Is K k c H d v) : Iss K k c H [d] [v] := .cons h .nil
theorem Iss.ints : ∀ ns : List Int, Iss K k c H (ns.map D.int) (ns.map V.int)
  | [] => .nil
  | n :: r => .cons (.int n) (Iss.ints r)
theorem Iss.strs : ∀ ns : List Str, Iss K k c H (ns.map D.str) (ns.map V.str)
  | [] => .nil
  | n :: r => .cons (.str n) (Iss.strs r)
theorem Iss.ints_eq : ∀ {ns : List Int} {vs : List V}, Iss K k c H (ns.map D.int) vs → vs = ns.map V.int
  | [], _, .nil => rfl
  | n :: r, _, .cons h t => by
    have e := Iss.ints_eq (ns := r) t
    cases h
    rw [e]
    rfl
theorem Iss.strs_eq : ∀ {ns : List Str} {vs : List V}, Iss K k c H (ns.map D.str) vs → vs = ns.map V.str
  | [], _, .nil => rfl
  | n :: r, _, .cons h t => by
    have e := Iss.strs_eq (ns := r) t
    cases h
    rw [e]
    rfl
end
section
variable {K : PySem.W.Frag} {k : Nat} {c : Col} {H : Hp} {a : Addr} {vs : List V}
/-- data that leans on no written part -/
theorem LsAt.raw (h : LsAt ([] : PySem.W.Frag) k c H a vs) : c a = k ∧ H a = some (.lst vs) := by
  rcases h with h | (h | ⟨o, h⟩) | ⟨o, _, _, h, _⟩
  · exact h
  · cases h
  · cases h
  · cases h
theorem TpAt.raw (h : TpAt ([] : PySem.W.Frag) k c H a vs) : c a = k ∧ H a = some (.tup vs) := by
  rcases h with h | (h | ⟨o, h⟩) | ⟨o, _, _, h, _⟩
  · exact h
  · cases h
  · cases h
  · cases h
mutual
theorem Is.up : ∀ {d : D} {v : V}, Is ([] : PySem.W.Frag) k c H d v → Is K k c H d v
  | _, _, .non => .non
  | _, _, .bl b => .bl b
  | _, _, .int i => .int i
  | _, _, .str s => .str s
  | _, _, .lst h r => .lst (.inl h.raw) (Iss.up r)
  | _, _, .tup h r => .tup (.inl h.raw) (Iss.up r)
  | _, _, .dic h r => .dic h (Isk.up r)
theorem Iss.up : ∀ {ds : List D} {vs : List V}, Iss ([] : PySem.W.Frag) k c H ds vs → Iss K k c H ds vs
  | _, _, .nil => .nil
  | _, _, .cons h r => .cons (Is.up h) (Iss.up r)
theorem Isk.up : ∀ {ds : List (Key × D)} {vs : List (Key × V)}, Isk ([] : PySem.W.Frag) k c H ds vs → Isk K k c H ds vs
  | _, _, .nil => .nil
  | _, _, .cons h r => .cons (Is.up h) (Isk.up r)
end
end
/-- no deeper than n, no wider than 100000 -/
inductive Fits : Nat → D → Prop
  | non {n : Nat} : Fits n .non
  | bl {n : Nat} (b : Bool) : Fits n (.bl b)
  | int {n : Nat} (i : Int) : Fits n (.int i)
  | str {n : Nat} (s : Str) : Fits n (.str s)
  | lst {n : Nat} {ds : List D} (h : ds.length ≤ 100000) (r : ∀ d ∈ ds, Fits n d) : Fits (n + 1) (.lst ds)
  | tup {n : Nat} {ds : List D} (h : ds.length ≤ 100000) (r : ∀ d ∈ ds, Fits n d) : Fits (n + 1) (.tup ds)
  | dic {n : Nat} {ks : List (Key × D)} (h : ks.length ≤ 100000) (nd : (ks.map (·.1)).Nodup) (tx : ∀ q ∈ ks, ∃ s, q.1 = Sum.inr s) (r : ∀ q ∈ ks, Fits n q.2) : Fits (n + 1) (.dic ks)
end L2

/-! Rules: the layer's rules with the written part told by name, some further ones. -/
namespace L2
open PySem PySem.Spec PyProof.Rows
section
variable {X : Cx} {K : PySem.W.Frag} {a b c e o : Expr} {es : List Expr} {ta tb te to tv : TE} {t : TA} {pos pos' apos cpos : Pos} {tg : Expr}
def rLenQ (K : PySem.W.Frag) : List V → Hp → VK → Prop := fun xs H Q => ∃ p ys, xs = [.ref p] ∧ (SqL K H p ys ∨ SqT K H p ys) ∧ Q (.int ys.length) H
def rListQ (K : PySem.W.Frag) : List V → Hp → VK → Prop := fun xs H Q => ∃ p ys, xs = [.ref p] ∧ (SqL K H p ys ∨ SqT K H p ys) ∧ ∀ l, H l = none → Q (.ref l) (upd H l (.lst ys))
def rTupQ (K : PySem.W.Frag) : List V → Hp → VK → Prop := fun xs H Q => ∃ p ys, xs = [.ref p] ∧ SqL K H p ys ∧ ∀ l, H l = none → Q (.ref l) (upd H l (.tup ys))
def rJoinQ (K : PySem.W.Frag) : V → List V → Hp → VK → Prop := fun x xs H Q => ∃ a p, ∃ ys : List Str, x = .str a ∧ xs = [.ref p] ∧ (SqL K H p (ys.map V.str) ∨ SqT K H p (ys.map V.str)) ∧
      (ys.map (·.length)).sum + ys.length * a.length ≤ 16777216 ∧ Q (.str (Txt.join a ys)) H
def tTruQ (K : PySem.W.Frag) (ta : TE) : TT := fun σ H Q => ta σ H fun x H' => ∃ k, TruV K x H' k ∧ Q k H'
def rLenSq : List V → Hp → VK → Prop := fun xs H Q => ∃ z, xs = [.str z] ∧ z.length ≤ sizeLine ∧ Q (.int z.length) H
theorem pg_tup' {es : List Expr} {k n : Nat} {tgs : TGs} (hc : X.calm = true) (hp : PGs X es tgs) (h : X.K = K := by rfl) (hn : (assignEach es X.env).length = n := by rfl) (hst : (assignEach es X.env).findIdx? (·.1) = none := by rfl) : PG X (.Tuple es k pos) (gTup K n tgs) := by
  subst h
  exact pg_tup hc hp hn hst
theorem ix_list' (h : X.K = K := by rfl) : IxR X (rIxL K) := by subst h; exact ix_list
theorem ix_tup' (h : X.K = K := by rfl) : IxR X (rIxT K) := by subst h; exact ix_tup
theorem ix_seq' (h : X.K = K := by rfl) : IxR X (rIx K) := by subst h; exact ix_seq
theorem sl_tup' (h : X.K = K := by rfl) : SlR X (rSlT K) := by subst h; exact sl_tup
theorem sl_list' (h : X.K = K := by rfl) : SlR X (rSlL K) := by subst h; exact sl_list
theorem op_in_seq' (h : X.K = K := by rfl) : OpR X (compareOp .In) (rIn K false) := by subst h; exact op_in_seq
theorem op_notIn_seq' (h : X.K = K := by rfl) : OpR X (compareOp .NotIn) (rIn K true) := by subst h; exact op_notIn_seq
theorem op_eqD' (hu : X.A.units + 64 < cLine) (h : X.K = K := by rfl) : OpR X (compareOp .Eq) (rEqD K) := by subst h; exact op_eqD hu
theorem op_neD' (hu : X.A.units + 64 < cLine) (h : X.K = K := by rfl) : OpR X (compareOp .NotEq) (rNeD K) := by subst h; exact op_neD hu
theorem op_catA' (h : X.K = K := by rfl) : OpR X (binaryOp .Add) (rCatA K) := by subst h; exact op_catA
theorem call_len_seq' (h : X.K = K := by rfl) : CallR X (.builtin "len") (rLenQ K) := by subst h; exact call_len_seq
theorem call_len_str' : CallR X (.builtin "len") rLenSq := call_len_str
theorem call_list_of' (h : X.K = K := by rfl) : CallR X (.type "list") (rListQ K) := by subst h; exact call_list_of
theorem call_tuple_of' (h : X.K = K := by rfl) : CallR X (.type "tuple") (rTupQ K) := by
  subst h
  intro pins s σ H xs us Q I r q
  obtain ⟨p, ys, e, h1, h2⟩ := q
  exact call_tuple_of pins s σ H xs us Q I r ⟨p, ys, e, .inl ⟨h1, h2⟩⟩
theorem call_isi' (h : X.K = K := by rfl) : CallR X (.builtin "isinstance") (rIsi K) := by subst h; exact call_isi
theorem call_isiT' (h : X.K = K := by rfl) : CallR X (.builtin "isinstance") (rIsiT K) := by subst h; exact call_isiT
theorem cr_all' (hc : X.calm = true) (h : X.K = K := by rfl) : CallR X (.builtin "all") (rAll K) := by subst h; exact cr_all hc
theorem cr_any' (hc : X.calm = true) (h : X.K = K := by rfl) : CallR X (.builtin "any") (rAny K) := by subst h; exact cr_any hc
theorem cr_sum' (hc : X.calm = true) (h : X.K = K := by rfl) : CallR X (.builtin "sum") (rSum K) := by subst h; exact cr_sum hc
theorem cr_max' (hc : X.calm = true) (h : X.K = K := by rfl) : CallR X (.builtin "max") (rMax K) := by subst h; exact cr_max hc
theorem cr_min' (hc : X.calm = true) (h : X.K = K := by rfl) : CallR X (.builtin "min") (rMin K) := by subst h; exact cr_min hc
theorem mt_index' (h : X.K = K := by rfl) : MtR X "list.index" (rIndex K) := by subst h; exact mt_index
theorem pi_list' (hl : PE X e te) (h : X.K = K := by rfl) : PI X tg e (iList K te) := by subst h; exact pi_list hl
theorem pi_tup' (hl : PE X e te) (h : X.K = K := by rfl) : PI X tg e (iTup K te) := by subst h; exact pi_tup hl
theorem pt_truth' (ha : PE X a ta) (he : ∀ whole, isTrue a X.env whole = (do let v ← whole; standAt a.pos; holding [v] (truthy v))) (h : X.K = K := by rfl) : PT X a (tTruQ K ta) := by subst h; exact pt_truth ha he
theorem pe_fld' {f : Str} (he : PE X e ta) (hb : attributeBase e f X.env (eval e X.env) = eval e X.env) (h : X.K = K := by rfl) : PE X (.Attribute e f pos) (tFld K ta f) := by subst h; exact pe_fld he hb
theorem ps_fld' {f : Str} {value : Expr} (ha : PE X o ta) (hv : PE X value tv) (hs : swapsWith value (some (.Attribute o f pos')) pos.line X.env = pure false) (h : X.K = K := by rfl) : PS X (.Assign [.Attribute o f pos'] value pos) (sFld K ta tv f) := by subst h; exact ps_fld ha hv hs
theorem pe_join' {apos pos : Pos} (ho : PE X o to) (he : PE X e te) (h : X.K = K := by rfl) (hs : starEach [e] X.env = [(false, eval e X.env)] := by rfl) (hbase : attributeBase o "join" X.env (eval o X.env) = eval o X.env := by rfl) (hline : (apos.endLine == pos.line) = true := by rfl) :
    PE X (.Call (.Attribute o "join" apos) [e] [] pos) (tM1 (rJoinQ K) to te) := by subst h; exact pe_join ho he hs hbase hline
section
variable {name : Str} {T id : String} {r : V → List V → Hp → VK → Prop}
theorem pe_bm0' (pa : PlainAttrs T) (slot : Slot T name id) (hty : typeOf (.builtin id) = pure (.type "method_descriptor")) (hm : MtR X id r) (ho : PE X o to) (h : X.K = K := by rfl)
    (hbase : attributeBase o name X.env (eval o X.env) = eval o X.env := by rfl) (hline : (apos.endLine == cpos.line) = true := by rfl) : PE X (.Call (.Attribute o name apos) [] [] cpos) (tBM0 K T r to) := by subst h; exact pe_bm0 pa slot hty hm ho hbase hline
theorem pe_bm' (pa : PlainAttrs T) (slot : Slot T name id) (hty : typeOf (.builtin id) = pure (.type "method_descriptor")) (hm : MtR X id r) (ho : PE X o to) (ha : PA X (e :: es) t) (h : X.K = K := by rfl)
    (hbase : attributeBase o name X.env (eval o X.env) = eval o X.env := by rfl)
    (hfew : ((backTo cpos (starEach (e :: es) X.env)).all (fun x => !x.1) && (backToKw cpos (keywordEach [] X.env)).all (fun x => x.1.isSome)
      && decide ((e :: es).length + ([] : List Keyword).length + (if ([] : List Keyword).isEmpty then 0 else 1) < 30)) = true := by rfl)
    (hline : (apos.endLine == cpos.line) = true := by rfl) (hs : starEach (e :: es) X.env = (false, eval e X.env) :: starEach es X.env := by rfl) (hplain : (backTo cpos (starEach es X.env)).any (·.1) = false := by rfl) :
    PE X (.Call (.Attribute o name apos) (e :: es) [] cpos) (tBM K T r to t) := by subst h; exact pe_bm pa slot hty hm ho ha hbase hfew hline hs hplain
end
/-! ### text times int -/
def strRep (a : Str) (n : Nat) : Str := ⟨((List.replicate n a.cps.toList).flatten).toArray⟩
theorem foldl_app_toList {α : Type} : ∀ (xs : List (Array α)) (z : Array α), (xs.foldl (· ++ ·) z).toList = z.toList ++ (xs.map Array.toList).flatten
  | [], z => by simp
  | x :: r, z => by
    show (r.foldl (· ++ ·) (z ++ x)).toList = _
    rw [foldl_app_toList r (z ++ x)]
    simp
theorem strRep_fold (a : Str) (n : Nat) : (⟨(List.replicate n a.cps).foldl (· ++ ·) #[]⟩ : Str) = strRep a n := by
  have h := foldl_app_toList (List.replicate n a.cps) #[]
  unfold strRep
  congr 1
  apply Array.ext'
  rw [h]
  simp
theorem flat_rep_len {α : Type} (l : List α) : ∀ n : Nat, ((List.replicate n l).flatten).length = n * l.length
  | 0 => by simp
  | n + 1 => by
    rw [List.replicate_succ, List.flatten_cons, List.length_append, flat_rep_len l n, Nat.succ_mul]
    omega
theorem strRep_len (a : Str) (n : Nat) : (strRep a n).length = n * a.length := by
  show ((List.replicate n a.cps.toList).flatten.toArray).size = n * a.cps.size
  rw [List.size_toArray, flat_rep_len, Array.length_toList]
def rMulS : R2 := fun x y H Q => ∃ (a : Str) (n : Int), x = .str a ∧ y = .int n ∧ -1000000 ≤ n ∧ n ≤ 1000000 ∧ a.length * n.toNat ≤ 1000000 ∧ Q (.str (strRep a n.toNat)) H
theorem op_repS : OpR X (binaryOp .Mult) rMulS := by
  intro pins s σ H x y v u Q I rx ry h
  obtain ⟨a, n, rfl, rfl, h1, h2, h3, q⟩ := h
  obtain ⟨t, rfl⟩ := rx
  obtain ⟨t', rfl⟩ := ry
  have fin : ∀ {z : Str}, z = strRep a n.toNat → EP X pins σ Q (.str z s.toks) { s with toks := s.toks + 1 } := fun {z} e => by
    subst e
    exact ⟨.str _, H, I.tok _, ⟨_, rfl⟩, q⟩
  refine PySem.P.mul_str ?_ ?_ ?_ ?_
  · rw [Bool.or_eq_false_iff]
    exact ⟨decide_eq_false (by omega), decide_eq_false (by omega)⟩
  · intro k1 k2 k3
    have e1 : (2 ^ 63 - 1 : Int) / n ≥ (2 ^ 63 - 1 : Int) / 1000000 := by
      have hn : 0 < n := by omega
      apply Int.le_ediv_of_mul_le hn
      have e2 : (2 ^ 63 - 1 : Int) / 1000000 = 9223372036854 := by decide
      rw [e2]
      have : (9223372036854 : Int) * n ≤ 9223372036854 * 1000000 := Int.mul_le_mul_of_nonneg_left h2 (by decide)
      omega
    have e2 : (2 ^ 63 - 1 : Int) / 1000000 = 9223372036854 := by decide
    have hn : 1 ≤ n.toNat := by omega
    have e3 : a.length ≤ 1000000 := Nat.le_trans (by have := Nat.le_mul_of_pos_right a.length hn; omega) h3
    omega
  · intro k1 k2
    unfold Builtin.Str.tooLong
    have : sizeLine = 16777216 := sizeLine_eq
    first
      | exact decide_eq_false (by omega)
      | (simp only [decide_eq_false_iff_not]; omega)
      | (rw [Bool.eq_false_iff]; intro z; have z' := of_decide_eq_true z; omega)
  · by_cases k1 : n < 1
    · rw [if_pos k1]
      have e0 : n.toNat = 0 := by omega
      refine ⟨by decide, ?_⟩
      refine fin ?_
      rw [e0]
      rfl
    · rw [if_neg k1]
      by_cases k2 : (n == 1 || a.length == 0) = true
      · rw [if_pos k2]
        refine ⟨.str a, H, I, ⟨_, rfl⟩, ?_⟩
        have e : strRep a n.toNat = a := by
          rcases (Bool.or_eq_true _ _).mp k2 with k | k
          · have e1 : n = 1 := by simpa using k
            subst e1
            show strRep a 1 = a
            unfold strRep
            simp
          · have e1 : a.length = 0 := by simpa using k
            have e2 : a.cps.size = 0 := e1
            have e3 : a.cps = #[] := Array.size_eq_zero_iff.mp e2
            unfold strRep
            rw [e3]
            cases a
            simp at e3
            subst e3
            congr 1
            apply Array.ext'
            simp
        rw [← e]
        exact q
      · rw [if_neg k2]
        rw [strRep_fold]
        refine ⟨?_, fin rfl⟩
        have e1 := strRep_len a n.toNat
        have e2 : n.toNat * a.length = a.length * n.toNat := Nat.mul_comm _ _
        have : sizeLine = 16777216 := sizeLine_eq
        omega
end
end L2

/-! Kit2: making an instance, in bundles. -/
namespace L2
open PySem PySem.Spec PyProof.Rows
/-- the module's name x is the class at C, whose __init__ keeps sp -/
structure MkOk (P : Program) (w : World) (K : PySem.W.Frag) (mg : Str → Option Value) (base : Heap) (CX : CXT) (k : Nat) (C : Addr) (x : Str) (ps : List Str) (sp : Sp) : Prop where
  ex : ∃ f fd, Mk K C f ∧ mg x = some (.ref C) ∧ Binds K fd ps [] ∧ FnOk P w K mg base CX k f fd ps sp
section
variable {X : Cx} {W : WX} {k : Nat} {C : Addr} {ps : List Str} {sp : Sp} {x : Str} {p pos : Pos} {e : Expr} {es : List Expr} {t : TA}
theorem pe_mkD (G : MkOk X.prog X.w X.K X.mg X.base CX0 k C x ps sp) (hr : Room (k + 1) X.A) (ha : PA X (e :: es) t) (hg : Gl X x := by rfl) (hdb : (x == ("__debug__" : Str)) = false := by decide)
    (he : starEach (e :: es) X.env = (false, eval e X.env) :: starEach es X.env := by rfl) (hpl : (backTo pos (starEach es X.env)).any (·.1) = false := by rfl) :
    PE X (.Call (.Name x p) (e :: es) [] pos) (tMake C sp [] E0 t) := by
  obtain ⟨f, fd, M, hm, hb, F⟩ := G.ex
  exact pe_make M F hr hg hm hb .nil pass0 ha hdb he hpl
theorem pe_mkD0 (G : MkOk X.prog X.w X.K X.mg X.base CX0 k C x ps sp) (hr : Room (k + 1) X.A) (hg : Gl X x := by rfl) (hdb : (x == ("__debug__" : Str)) = false := by decide) :
    PE X (.Call (.Name x p) [] [] pos) (tMake C sp [] E0 tNil) := by
  obtain ⟨f, fd, M, hm, hb, F⟩ := G.ex
  exact pe_make0 M F hr hg hm hb .nil pass0 hdb
end
section
variable {P : Program} {w : World} {K : PySem.W.Frag} {mg : Str → Option Value} {base : Heap}
theorem mk_mk {C : Addr} {x q : Str} {st : Stmt} {f : Addr} {fd : FuncData} {N ps : List Str} {k : Nat} {sp : Sp} (F : FunD K "__init__" q (defArgs st) (defBody st) (defScope st) [] [] f fd) (M : Mk K C f) (m : mg x = some (.ref C)) (b : Binds K fd ps []) (S : FnScope N ps (defScope st))
    (len : ∀ vs H Q E, sp vs H Q E → vs.length = ps.length)
    (hbody : ∀ (cdv : Value) (A : Around) (outer : List Env) (s : Shared) (H : Hp) (vs : List V) (Q : VK) (E : XK), Room k (A.deeper (envOfC q (defScope st) s.heap.objs.size f cdv)) → sp vs H Q E →
      ∃ t, PSs (cxOf CX0 P w K mg base N q (defScope st) f cdv A outer s H E) (defBody st) t ∧ t { nx := fun _ H' => Q .non H', rt := Q } (start N vs) H) : MkOk P w K mg base CX0 (k + 1) C x ps sp :=
  ⟨f, fd, M, m, b, F.ok S len hbody⟩
end
end L2

/-! Rules2: list.count of flat values. -/
namespace L2
open PySem PySem.Spec PyProof.Rows
section
variable {X : Cx} {K : PySem.W.Frag}
def rCntF (K : PySem.W.Frag) : V → List V → Hp → VK → Prop := fun x xs H Q => ∃ (p : Addr) (ys : List V) (y : V), x = .ref p ∧ xs = [y] ∧ SqL K H p ys ∧ flatV y = true ∧ ys.all flatV = true ∧ Q (.int (ys.countP (fun z => eqV z y) : Nat)) H
theorem countF {y : V} {u : Value} (ry : RelV y u) : ∀ {ys : List V} {us : List Value}, Vals ys us → ys.all flatV = true → us.countP (eqU y) = ys.countP (fun z => eqV z y)
  | _, _, .nil, _ => rfl
  | _, _, .cons r rs, f => by
    have f2 := Bool.and_eq_true_iff.mp f
    rw [List.countP_cons, List.countP_cons, countF ry rs f2.2, eqU_of r f2.1]
theorem mt_lcountF (hK : X.K = K := by rfl) : MtR X "list.count" (rCntF K) := by
  subst hK
  intro pins s σ H x xs v us Q I rx rxs h
  obtain ⟨p, ys, y, rfl, rfl, hs, fy, fys, q⟩ := h
  cases rx
  obtain ⟨u, rfl, ru⟩ := rxs.one
  obtain ⟨its, rv, ⟨⟨cls, dd, data, sl⟩, n, ho, hc, hdn, hd⟩, hlen⟩ := I.list hs
  simp only at hc hd
  subst hc hd
  refine call_meets PySem.F.slot_list_count ⟨_, ho, rfl⟩ PySem.F.entry_list_count (PySem.F.args_list_count_2 _ _)
    (SeqAt.list_countAt p its.toArray n dd sl u (eqU y)) ⟨ho, fun u' hu' => mem_eqAt ru fy rv fys u' (by simpa using hu'), ?_⟩
  have ec : its.toArray.toList.countP (eqU y) = ys.countP (fun z => eqV z y) := countF ru rv fys
  refine ⟨.int (ys.countP (fun z => eqV z y) : Nat), H, I.tok _, ⟨s.toks, ?_⟩, q⟩
  show Value.int ((its.toArray.toList.countP (eqU y) : Nat) : Int) s.toks = Value.int ((ys.countP (fun z => eqV z y) : Nat) : Int) s.toks
  rw [ec]
theorem call_isX2 (h : X.K = K := by rfl) : CallR X (.builtin "isinstance") (rIsX K) := by subst h; exact call_isX
end
end L2

/-! LowHook: the head tells the own exceptions of Low: their class, their __init__ with its cell, its code object. -/
namespace Lo
open PySem PySem.W PySem.Calls PyProof.Rows PySem.HandSPX
abbrev LwW : Type := Option (Str × Str × Arguments × FuncBody × Scope × Addr × List Str × Addr)
abbrev caI (K : Frag) (x : Str) : Addr := He.ga K x
abbrev faI (K : Frag) (x : Str) : Addr := He.ma K (He.ga K x) "__init__"
def lowW (K : Frag) (x : Str) : LwW := match K.lookup (faI K x) with
  | some ⟨_, _, .func fd, _⟩ => some (fd.name, fd.qualname, fd.params, fd.body, fd.scope, fd.globals, fd.closure.map (·.1), fd.builtins)
  | _ => none
structure LowD where
  x : Str
  fld : Str
  qual : Str
  params : Arguments
  body : List Stmt
  scope : Scope
  file : Str
def LowD.val (d : LowD) : LwW := some ("__init__", d.qual, d.params, .stmts d.body, d.scope, mainGlobals, ["__class__"], builtinsNs)
def clsB (K : Frag) (C : Addr) : Bool := match K.lookup C with
  | some ⟨.type "type", _, .cls cd, sl⟩ => (match cd.mro, sl.toList with
    | .ref C' :: bm, [_, _, _, _, some (.builtin n), _] => (C' == C) && ((n == "ValueError.__new__") && ((!cd.hasDel) && (cd.hasDict && refsVE bm)))
    | _, _ => false)
  | _ => false
theorem clsB_ok {K : Frag} {C : Addr} (q : clsB K C = true) : ∃ nm q N bs bm sn sub ab col dd k0 k1 k2 k3 k5, K.lookup C = some (excClassObj nm q C N bs bm true sn sub ab col dd k0 k1 k2 k3 k5 "ValueError.__new__") ∧ refsVE bm = true := by
  unfold clsB at q
  split at q
  · rename_i dd cd sl ho
    split at q
    · rename_i C' bm k0 k1 k2 k3 n k5 hm hs
      simp only [Bool.and_eq_true, beq_iff_eq, Bool.not_eq_true'] at q
      obtain ⟨rfl, rfl, hdel, hhd, ht⟩ := q
      obtain ⟨nm, bs, mro, ns, qn, hd, sn, sub, ab, col, del⟩ := cd
      dsimp only at hm hdel hhd
      subst hm hdel hhd
      have hsl : sl = #[k0, k1, k2, k3, some (.builtin "ValueError.__new__"), k5] := by
        obtain ⟨l⟩ := sl
        simp only at hs
        rw [hs]
      subst hsl
      exact ⟨nm, qn, ns, bs, bm, sn, sub, ab, col, dd, k0, k1, k2, k3, k5, ho, ht⟩
    · cases q
  · cases q
def fldB (fld : Str) : Bool := (fld == ("self" : Str)) || ((("__class__" : Str) == fld) || ((("super" : Str) == fld) || ((fld == ("__debug__" : Str)) || (("self" : Str) == fld))))
theorem fldB_ok {fld : Str} (h : fldB fld = false) : FldOk fld := by
  unfold fldB at h
  simp only [Bool.or_eq_false_iff] at h
  obtain ⟨h1, h2, h3, h4, h5⟩ := h
  exact ⟨h1, h2, h3, h4, h5⟩
def fnB (K : Frag) (fI C : Addr) (file : Str) : Bool := match K.lookup fI with
  | some ⟨_, _, .func fd, _⟩ => decide (fd.defaults = .none) && (decide (fd.kwdefaults = .none) && ((match fd.code with
    | .ref cda => codeIn K (.ref cda) fd.qualname && (match K.lookup cda with
      | some ⟨_, _, .fields vs, _⟩ => (match (vs[2]? : Option Value) with
        | some (Value.str f _) => file == f
        | _ => false)
      | _ => false)
    | _ => false) && (match fd.closure with
    | [(_, cc)] => (match K.lookup cc with
      | some ⟨_, _, .cell (some (.ref C')), _⟩ => C' == C
      | _ => false)
    | _ => false)))
  | _ => false
def lowB (K : Frag) (d : LowD) : Bool :=
  clsB K (caI K d.x) && (!fldB d.fld && (decide (findIn K (.ref (caI K d.x)) "__setattr__" = some (some (.builtin "object.__setattr__"))) && (decide (findIn K (.ref (caI K d.x)) d.fld = some none) &&
  (decide (findIn K (.ref (caI K d.x)) "__init__" = some (some (.ref (faI K d.x)))) && (decide (typeIn K (.ref (faI K d.x)) = some (.type "function")) && (keepIn K (.ref (caI K d.x)) &&
  (decide (subIn K (.ref (caI K d.x)) (.type "BaseException") = some true) && (decide (subIn K (.ref (caI K d.x)) (.type "ValueError") = some true) && (decide (typeIn K (.ref (caI K d.x)) = some (.type "type")) &&
  (decide (mroIn K (caI K d.x) (.ref (caI K d.x)) = some true) && (decide (ks_superIn K (caI K d.x) (caI K d.x) "__init__" = some (some (.builtin "ValueError.__init__"))) &&
  (decide (nsIn K mainGlobals "super" = some none) && (decide (nsIn K cStatics "thirdparty.any" = some none) && fnB K (faI K d.x) (caI K d.x) d.file)))))))))))))
/-- what the text must be for Low's rule: asked of the concrete __init__ -/
structure LowT (d : LowD) (p1 p2 a1 a2 a3 a4 a5 a6 b1 b2 b3 b4 : Pos) : Prop where
  par : d.params = iA d.fld p1 p2
  bod : d.body = iB d.fld a1 a2 a3 a4 a5 a6 b1 b2 b3 b4
  sco : d.scope = iS d.fld
  bind : ∀ (q : Str) (doc pm : Value) (an : Option Addr) (cc cda : Addr) (ct u v : Value),
    bindArgs (fnX "__init__" q (iA d.fld p1 p2) (iB d.fld a1 a2 a3 a4 a5 a6 b1 b2 b3 b4) (iS d.fld) [("__class__", cc)] .none .none doc pm an (.ref cda) ct) ⟨[u, v], []⟩ = pure [((PySem.Str.ofString "self" : Str), u), (d.fld, v)]
  ev : ∀ env : Env, ∃ pl : Sem Bool, eval (.Call (.Attribute (.Call (.Name "super" a1) [] [] a2) "__init__" a3) [.Name d.fld a4] [] a5) env = (do
      let ov ← attributeBase (.Call (.Name "super" a1) [] [] a2) "__init__" env (eval (.Call (.Name "super" a1) [] [] a2) env)
      standAt a3.atName
      let (f, first) ← holding [ov] (getMethod ov "__init__" pl)
      callWith a5 f first (backTo a5 (starEach [.Name d.fld a4] env)) [])
theorem low_of {P : Program} {K : Frag} {d : LowD} {p1 p2 a1 a2 a3 a4 a5 a6 b1 b2 b3 b4 : Pos} (T : LowT d p1 p2 a1 a2 a3 a4 a5 a6 b1 b2 b3 b4) (w : lowW K d.x = d.val) (b : lowB K d = true) (hf : P.main.file = d.file)
    (ht : (P.main.scope.names.lookup ("super" : Str)).isSome = false) : LowC P K (caI K d.x) (faI K d.x) d.fld := by
  unfold lowB at b
  simp only [Bool.and_eq_true, decide_eq_true_eq, Bool.not_eq_true'] at b
  obtain ⟨z1, z2, z3, z4, z5, z6, z7, z8, z9, z10, z11, z12, z13, z14, z15⟩ := b
  refine ⟨fldB_ok z2, clsB_ok z1, z3, z4, z5, z6, z7, z8, z9, z10, z11, z12, z13, z14, ht, ?_⟩
  unfold fnB at z15
  unfold lowW at w
  cases e : K.lookup (faI K d.x) with
  | none =>
    rw [e] at z15
    cases z15
  | some o =>
    obtain ⟨oc, od, dt, osl⟩ := o
    rw [e] at z15 w
    cases dt with
    | func fd =>
      obtain ⟨nm, qn, pr, bo, scp, gl, cl, dv, kv, doc, pm, an, code, ct, bu⟩ := fd
      simp only [Bool.and_eq_true, decide_eq_true_eq] at z15
      obtain ⟨y1, y2, y3, y4⟩ := z15
      dsimp only at y1 y2 y3 y4 w
      subst y1 y2
      unfold LowD.val at w
      injection w with w
      injection w with w1 w
      injection w with w2 w
      injection w with w3 w
      injection w with w4 w
      injection w with w5 w
      injection w with w6 w
      injection w with w7 w8
      subst w1 w2 w3 w4 w5 w6 w8
      cases code with
      | ref cda =>
        dsimp only at y3
        obtain ⟨y5, y6⟩ := Bool.and_eq_true_iff.mp y3
        match cl, w7, y4 with
        | [(nm1, cc)], w7, y4 =>
          have en : nm1 = ("__class__" : Str) := by
            have := congrArg (fun l => l.head?) w7
            exact Option.some.inj this
          subst en
          dsimp only at y4
          refine ⟨oc, od, d.qual, doc, pm, an, cc, cda, ct, osl, p1, p2, a1, a2, a3, a4, a5, a6, b1, b2, b3, b4, ?_, y5, T.bind d.qual doc pm an cc cda ct, T.ev, ?_, ?_⟩
          · rw [T.par, T.bod, T.sco]
          · cases e2 : K.lookup cda with
            | none =>
              rw [e2] at y6
              cases y6
            | some o2 =>
              obtain ⟨c1, c2, c3, c4⟩ := o2
              rw [e2] at y6
              cases c3 with
              | fields vs =>
                dsimp only at y6
                cases e3 : vs[2]? with
                | none =>
                  rw [e3] at y6
                  cases y6
                | some v3 =>
                  rw [e3] at y6
                  cases v3 with
                  | str f tf =>
                    dsimp only at y6
                    exact ⟨c1, c2, vs, c4, f, tf, rfl, e3, by rw [hf]; exact y6⟩
                  | _ => cases y6
              | _ => cases y6
          · cases e2 : K.lookup cc with
            | none =>
              rw [e2] at y4
              cases y4
            | some o2 =>
              obtain ⟨c1, c2, c3, c4⟩ := o2
              rw [e2] at y4
              cases c3 with
              | cell v =>
                cases v with
                | none => cases y4
                | some v =>
                  cases v with
                  | ref C' =>
                    dsimp only at y4
                    have e5 : C' = caI K d.x := by simpa using y4
                    subst e5
                    exact ⟨c1, c2, c4, rfl⟩
                  | _ => cases y4
              | _ => cases y4
        | [], w7, y4 => cases y4
        | _ :: _ :: _, w7, y4 => cases y4
      | _ => cases y3
    | _ => cases z15
/-! ### the Hook: the fragment also holds the model's own table -/
abbrev AlL : Type := He.AlD × (Bool × List LwW)
structure SaysL (fa : List He.Fa) (fn : List He.DefD) (ls : List LowD) (ex : Frag → Bool) (K : Frag) : Prop where
  d : He.SaysD fa fn K
  more : ex K = true
  low : ls.map (fun d => lowW K d.x) = ls.map LowD.val
def fragL (g : Addr → Option Obj) (n : Nat) : Frag := He.frT g (cStatics :: He.asD g n)
def obsL (n : Nat) (fa : List He.Fa) (fn : List He.DefD) (ls : List LowD) (ex : Frag → Bool) (g : Addr → Option Obj) : AlL := (He.obsD fa fn (fragL g n), ex (fragL g n), ls.map fun d => lowW (fragL g n) d.x)
def hookL (n : Nat) (fa : List He.Fa) (fn : List He.DefD) (ls : List LowD) (ex : Frag → Bool) : Hook where
  α := AlL
  obs := fun s => obsL n fa fn ls ex s.heap.get?
  val := fun _ => (He.valD fn, true, ls.map LowD.val)
  says := fun _ h => ∃ K : Frag, K.In h ∧ SaysL fa fn ls ex K
  of := fun _ _ e => ⟨_, He.frT_in, congrArg (fun z : AlL => z.1) e, congrArg (fun z : AlL => z.2.1) e, congrArg (fun z : AlL => z.2.2) e⟩
  keeps := fun _ _ _ ⟨K, hK, c⟩ k => ⟨K, Frag.In.keeps hK k, c⟩
theorem obsL_eq {n : Nat} {fa : List He.Fa} {fn : List He.DefD} {ls : List LowD} {ex : Frag → Bool} {g : Addr → Option Obj} {s : Shared} (h : ∀ a, g a = s.heap.get? a) : obsL n fa fn ls ex g = (hookL n fa fn ls ex).obs s := by
  have e : g = s.heap.get? := funext h
  rw [e] <;> rfl
theorem SaysL.get {fa : List He.Fa} {fn : List He.DefD} {ls : List LowD} {ex : Frag → Bool} {K : Frag} (c : SaysL fa fn ls ex K) {d : LowD} (hd : d ∈ ls) : lowW K d.x = d.val := List.map_inj_left.mp c.low d hd
end Lo

/-! V1: plain data for values; what a moment of the run holds; how the plain state and the heap belong together. -/
namespace VL
open PySem PySem.Spec PyProof.Rows L2
/-- a test that is told by a Bool -/
@[reducible] def br (b : Bool) (A B : Prop) : Prop := match b with
  | true => A
  | false => B
theorem br_t {A B : Prop} (h : br true A B) : A := h
theorem br_f {A B : Prop} (h : br false A B) : B := h
/-- a value as plain data; obj n: the n-th of the things that are changed in place -/
inductive Dv where
  | non | bl (b : Bool) | int (i : Int) | str (s : Str) | ty (n : String) | raw (v : V)
  | lst (ds : List Dv) | tup (ds : List Dv) | dic (ks : List (Key × Dv)) | obj (n : Nat) | xob (a p : Addr) (f : Str) (d : Dv) | scr (ns : List Int)
/-- what is changed in place -/
inductive Bd where
  | lst (ds : List Dv) | dic (ks : List (Key × Dv))
@[reducible] def Bd.d : Bd → Dv
  | .lst ds => .lst ds
  | .dic ks => .dic ks
inductive Cl where
  | bd (b : Bd) | ins (C : Addr) (fs : List (Str × Dv))
/-- a slot: empty, a value for ever, a thing that this slot alone knows -/
inductive Sl where
  | un | fz (d : Dv) | ow (b : Bd)
@[reducible] def Sl.d : Sl → Dv
  | .un => .non
  | .fz d => d
  | .ow b => b.d
structure S where
  ρ : List Sl
  st : List Cl
/-- a moment: colours (0 for ever, 1 a cell, 2 one slot's own), the heap, the cells' addresses -/
structure Mo where
  c : Addr → Nat
  H : Hp
  α : List Addr
def cst (c : Addr → Nat) (p : Addr) (k : Nat) : Addr → Nat := fun b => if b = p then k else c b
theorem cst_same {c : Addr → Nat} {p : Addr} {k : Nat} : cst c p k p = k := if_pos rfl
theorem cst_ne {c : Addr → Nat} {p b : Addr} {k : Nat} (h : b ≠ p) : cst c p k b = c b := if_neg h
/-- from the def's begin: only cells and what is new may change -/
structure Kp (g g' : Mo) : Prop where
  col : ∀ b o, g.H b = some o → g'.c b = g.c b
  keep : ∀ b o, g.H b = some o → g.c b ≠ 1 → g'.H b = some o
  live : ∀ b o, g.H b = some o → ∃ o', g'.H b = some o'
/-- what is for ever stays -/
structure Ext (g g' : Mo) : Prop where
  fx : ∀ b o, g.H b = some o → g.c b = 0 ∨ g.c b = 3 → g'.c b = g.c b ∧ g'.H b = some o
  al : ∃ t, g'.α = g.α ++ t
section
variable {g g' g'' : Mo} {p a : Addr} {o : HO} {k : Nat}
theorem Kp.refl : Kp g g := ⟨fun _ _ _ => rfl, fun _ _ h _ => h, fun _ o h => ⟨o, h⟩⟩
theorem Kp.trans (x : Kp g g') (y : Kp g' g'') : Kp g g'' where
  col := fun b o h => by
    obtain ⟨o', h'⟩ := x.live b o h
    rw [y.col b o' h', x.col b o h]
  keep := fun b o h n => y.keep b o (x.keep b o h n) (by rw [x.col b o h]; exact n)
  live := fun b o h => by
    obtain ⟨o', h'⟩ := x.live b o h
    exact y.live b o' h'
theorem Kp.fresh (x : Kp g g') (h : g'.H p = none) : g.H p = none := by
  cases q : g.H p with
  | none => rfl
  | some o =>
    obtain ⟨o', z⟩ := x.live p o q
    rw [h] at z
    cases z
theorem Ext.refl : Ext g g := ⟨fun _ _ h n => ⟨rfl, h⟩, [], by simp⟩
theorem Ext.trans (x : Ext g g') (y : Ext g' g'') : Ext g g'' where
  fx := fun b o h n => by
    obtain ⟨n', h'⟩ := x.fx b o h n
    obtain ⟨n2, h2⟩ := y.fx b o h' (by rw [n']; exact n)
    exact ⟨by rw [n2, n'], h2⟩
  al := by
    obtain ⟨t, e⟩ := x.al
    obtain ⟨u, e'⟩ := y.al
    exact ⟨t ++ u, by rw [e', e, List.append_assoc]⟩
theorem Ext.fz (x : Ext g g') (b : Addr) (o : HO) (h : g.H b = some o) (n : g.c b = 0) : g'.c b = 0 ∧ g'.H b = some o := by
  obtain ⟨e, h'⟩ := x.fx b o h (.inl n)
  exact ⟨by rw [e, n], h'⟩
theorem Kp.ext (x : Kp g g') (al : ∃ t, g'.α = g.α ++ t) : Ext g g' := ⟨fun b o h n => ⟨x.col b o h, x.keep b o h (by omega)⟩, al⟩
theorem Ext.at (x : Ext g g') {n : Nat} {a : Addr} (h : g.α[n]? = some a) : g'.α[n]? = some a := by
  obtain ⟨t, e⟩ := x.al
  rw [e, List.getElem?_append_left (by exact (List.getElem?_eq_some_iff.mp h).1)]
  exact h
/-- the same thing, but for the lock of a dict that is walked -/
def Eqv (o o' : HO) : Prop := o = o' ∨ ∃ kvs, (o = .dK kvs ∨ ∃ od, o = .frz od (.dK kvs)) ∧ (o' = .dK kvs ∨ ∃ od, o' = .frz od (.dK kvs))
theorem Eqv.trans {a b c : HO} (x : Eqv a b) (y : Eqv b c) : Eqv a c := by
  rcases x with rfl | ⟨k, h1, h2⟩
  · exact y
  · rcases y with rfl | ⟨k', h3, h4⟩
    · exact .inr ⟨k, h1, h2⟩
    · refine .inr ⟨k, h1, ?_⟩
      have e : k' = k := by
        rcases h2 with rfl | ⟨o, rfl⟩ <;> rcases h3 with h3 | ⟨o', h3⟩ <;> cases h3 <;> rfl
      rw [← e]
      exact h4
theorem Eqv.rd {H H' : Hp} {a : Addr} {o o' : HO} {kvs : List (Key × V)} (e : Eqv o o') (h : H a = some o) (h' : H' a = some o') (r : Rd H a (.dK kvs)) : Rd H' a (.dK kvs) := by
  rcases e with rfl | ⟨k, h1, h2⟩
  · rcases r with r | ⟨od, r⟩
    · rw [h] at r
      exact .inl (by rw [h', r])
    · rw [h] at r
      exact .inr ⟨od, by rw [h', r]⟩
  · have e : k = kvs := by
      rcases h1 with rfl | ⟨o1, rfl⟩ <;> rcases r with r | ⟨od, r⟩ <;> rw [h] at r <;> cases r <;> rfl
    subst e
    rcases h2 with rfl | ⟨o2, rfl⟩
    · exact .inl h'
    · exact .inr ⟨o2, h'⟩
/-- .. less: what is for ever, colour 0 alone, locks left out -/
structure Ext0 (g g' : Mo) : Prop where
  fz : ∀ b o, g.H b = some o → g.c b = 0 → g'.c b = 0 ∧ ∃ o', g'.H b = some o' ∧ Eqv o o'
  al : ∃ t, g'.α = g.α ++ t
theorem Ext.z (x : Ext g g') : Ext0 g g' := ⟨fun b o h n => ⟨(x.fz b o h n).1, o, (x.fz b o h n).2, .inl rfl⟩, x.al⟩
theorem Ext0.at (x : Ext0 g g') {n : Nat} {a : Addr} (h : g.α[n]? = some a) : g'.α[n]? = some a := by
  obtain ⟨t, e⟩ := x.al
  rw [e, List.getElem?_append_left (by exact (List.getElem?_eq_some_iff.mp h).1)]
  exact h
/-- all but what bears P is as it was -/
def But (P : Addr → Prop) (g g' : Mo) : Prop := ∀ b o, g.H b = some o → ¬ P b → g'.c b = g.c b ∧ g'.H b = some o
end
/-- a list, a tuple for ever -/
def LsF (K : PySem.W.Frag) (g : Mo) (a : Addr) (vs : List V) : Prop := g.c a = 0 ∧ g.H a = some (.lst vs)
def TpF (K : PySem.W.Frag) (g : Mo) (a : Addr) (vs : List V) : Prop := (g.c a = 0 ∧ g.H a = some (.tup vs)) ∨ SqT K (fun _ => none) a vs
mutual
inductive Rp (K : PySem.W.Frag) (g : Mo) : Dv → V → Prop
  | non : Rp K g .non .non
  | bl (b : Bool) : Rp K g (.bl b) (.bl b)
  | int (i : Int) : Rp K g (.int i) (.int i)
  | str (s : Str) : Rp K g (.str s) (.str s)
  | ty (n : String) : Rp K g (.ty n) (.ty n)
  | raw (v : V) : Rp K g (.raw v) v
  | lst {a : Addr} {ds : List Dv} {vs : List V} (h : LsF K g a vs) (r : Rps K g ds vs) : Rp K g (.lst ds) (.ref a)
  | tup {a : Addr} {ds : List Dv} {vs : List V} (h : TpF K g a vs) (r : Rps K g ds vs) : Rp K g (.tup ds) (.ref a)
  | dic {a : Addr} {ks : List (Key × Dv)} {kvs : List (Key × V)} (h : g.c a = 0 ∧ Rd g.H a (.dK kvs)) (r : Rpk K g ks kvs) : Rp K g (.dic ks) (.ref a)
  | obj {n : Nat} {a : Addr} (h : g.α[n]? = some a) : Rp K g (.obj n) (.ref a)
  | scr {a : Addr} {ns : List Int} (h : (∃ ob, g.c a = 0 ∧ g.H a = some (.frz ob (.lst (ns.map V.int)))) ∨ SqL K (fun _ => none) a (ns.map V.int)) : Rp K g (.scr ns) (.ref a)
  | xob {a p : Addr} {f : Str} {d : Dv} {v : V} (h : g.c p = 0 ∧ g.H p = some (.xd [(f, v)])) (r : Rp K g d v) : Rp K g (.xob a p f d) (.ref a)
inductive Rps (K : PySem.W.Frag) (g : Mo) : List Dv → List V → Prop
  | nil : Rps K g [] []
  | cons {d : Dv} {v : V} {ds : List Dv} {vs : List V} (h : Rp K g d v) (r : Rps K g ds vs) : Rps K g (d :: ds) (v :: vs)
inductive Rpk (K : PySem.W.Frag) (g : Mo) : List (Key × Dv) → List (Key × V) → Prop
  | nil : Rpk K g [] []
  | cons {q : Key} {d : Dv} {v : V} {ds : List (Key × Dv)} {vs : List (Key × V)} (h : Rp K g d v) (r : Rpk K g ds vs) : Rpk K g ((q, d) :: ds) ((q, v) :: vs)
end
/-- attributes -/
inductive Rpf (K : PySem.W.Frag) (g : Mo) : List (Str × Dv) → List (Str × V) → Prop
  | nil : Rpf K g [] []
  | cons {q : Str} {d : Dv} {v : V} {ds : List (Str × Dv)} {vs : List (Str × V)} (h : Rp K g d v) (r : Rpf K g ds vs) : Rpf K g ((q, d) :: ds) ((q, v) :: vs)
def BdAt (K : PySem.W.Frag) (g : Mo) (a : Addr) : Bd → Prop
  | .lst ds => ∃ vs, g.H a = some (.lst vs) ∧ Rps K g ds vs
  | .dic ks => ∃ kvs, g.H a = some (.dK kvs) ∧ Rpk K g ks kvs
def ClAt (K : PySem.W.Frag) (g : Mo) (a : Addr) : Cl → Prop
  | .bd b => BdAt K g a b
  | .ins C fs => ∃ dx vs, g.H a = some (.ins C dx vs) ∧ Rpf K g fs vs
section
variable {K : PySem.W.Frag} {g g' : Mo} {a p : Addr} {vs : List V} {v : V} {d : Dv} {ds : List Dv} {o : HO} {b : Bd} {cl : Cl}
theorem sql_none (h : SqL K (fun _ => none) a vs) {H : Hp} : SqL K H a vs := by
  rcases h with h | h
  · rcases h with h | ⟨o, h⟩ <;> cases h
  · exact .inr h
theorem sqt_none (h : SqT K (fun _ => none) a vs) {H : Hp} : SqT K H a vs := by
  rcases h with h | h
  · rcases h with h | ⟨o, h⟩ <;> cases h
  · exact .inr h
theorem LsF.sq (h : LsF K g a vs) : SqL K g.H a vs := .inl (.inl h.2)
theorem TpF.sq (h : TpF K g a vs) : SqT K g.H a vs := by
  rcases h with ⟨_, h⟩ | h
  · exact .inl (.inl h)
  · exact sqt_none h
theorem nd_lst {vs : List V} : ∀ kvs, HO.lst vs ≠ .dK kvs ∧ ∀ od, HO.lst vs ≠ .frz od (.dK kvs) := fun _ => ⟨fun e => (by cases e), fun _ e => (by cases e)⟩
theorem nd_frz {ob : Obj} {vs : List V} : ∀ kvs, HO.frz ob (.lst vs) ≠ .dK kvs ∧ ∀ od, HO.frz ob (.lst vs) ≠ .frz od (.dK kvs) := fun _ => ⟨fun e => (by cases e), fun _ e => (by cases e)⟩
theorem nd_tup {vs : List V} : ∀ kvs, HO.tup vs ≠ .dK kvs ∧ ∀ od, HO.tup vs ≠ .frz od (.dK kvs) := fun _ => ⟨fun e => (by cases e), fun _ e => (by cases e)⟩
theorem nd_xd {vs : List (Str × V)} : ∀ kvs, HO.xd vs ≠ .dK kvs ∧ ∀ od, HO.xd vs ≠ .frz od (.dK kvs) := fun _ => ⟨fun e => (by cases e), fun _ e => (by cases e)⟩
theorem Ext0.same (x : Ext0 g g') (h : g.H a = some o) (n : g.c a = 0) (hd : ∀ kvs, o ≠ .dK kvs ∧ ∀ od, o ≠ .frz od (.dK kvs)) : g'.c a = 0 ∧ g'.H a = some o := by
  obtain ⟨h1, o', h2, e⟩ := x.fz a o h n
  rcases e with rfl | ⟨k, q, _⟩
  · exact ⟨h1, h2⟩
  · rcases q with q | ⟨od, q⟩
    · exact absurd q (hd k).1
    · exact absurd q ((hd k).2 od)
theorem Ext0.dict (x : Ext0 g g') {kvs : List (Key × V)} (h : g.c a = 0 ∧ Rd g.H a (.dK kvs)) : g'.c a = 0 ∧ Rd g'.H a (.dK kvs) := by
  obtain ⟨n, h⟩ := h
  have : ∃ o, g.H a = some o := by
    rcases h with h | ⟨o, h⟩ <;> exact ⟨_, h⟩
  obtain ⟨o, ho⟩ := this
  obtain ⟨h1, o', h2, e⟩ := x.fz a o ho n
  exact ⟨h1, e.rd ho h2 h⟩
theorem LsF.ext0 (x : Ext0 g g') (h : LsF K g a vs) : LsF K g' a vs := x.same h.2 h.1 nd_lst
theorem TpF.ext0 (x : Ext0 g g') (h : TpF K g a vs) : TpF K g' a vs := by
  rcases h with ⟨n, h⟩ | h
  · exact .inl (x.same h n nd_tup)
  · exact .inr h
mutual
theorem Rp.ext0 (x : Ext0 g g') : ∀ {d : Dv} {v : V}, Rp K g d v → Rp K g' d v
  | _, _, .non => .non
  | _, _, .bl b => .bl b
  | _, _, .int i => .int i
  | _, _, .str s => .str s
  | _, _, .ty n => .ty n
  | _, _, .raw v => .raw v
  | _, _, .lst h r => .lst (h.ext0 x) (Rps.ext0 x r)
  | _, _, .tup h r => .tup (h.ext0 x) (Rps.ext0 x r)
  | _, _, .dic h r => .dic (x.dict h) (Rpk.ext0 x r)
  | _, _, .obj h => .obj (x.at h)
  | _, _, .scr h => .scr (h.elim (fun ⟨ob, h⟩ => .inl ⟨ob, x.same h.2 h.1 nd_frz⟩) .inr)
  | _, _, .xob h r => .xob (x.same h.2 h.1 nd_xd) (Rp.ext0 x r)
theorem Rps.ext0 (x : Ext0 g g') : ∀ {ds : List Dv} {vs : List V}, Rps K g ds vs → Rps K g' ds vs
  | _, _, .nil => .nil
  | _, _, .cons h r => .cons (Rp.ext0 x h) (Rps.ext0 x r)
theorem Rpk.ext0 (x : Ext0 g g') : ∀ {ds : List (Key × Dv)} {vs : List (Key × V)}, Rpk K g ds vs → Rpk K g' ds vs
  | _, _, .nil => .nil
  | _, _, .cons h r => .cons (Rp.ext0 x h) (Rpk.ext0 x r)
end
theorem Rpf.ext0 (x : Ext0 g g') : ∀ {ds : List (Str × Dv)} {vs : List (Str × V)}, Rpf K g ds vs → Rpf K g' ds vs
  | _, _, .nil => .nil
  | _, _, .cons h r => .cons (Rp.ext0 x h) (Rpf.ext0 x r)
theorem BdAt.ext0 (x : Ext0 g g') (e : g'.H a = g.H a) (h : BdAt K g a b) : BdAt K g' a b := by
  cases b with
  | lst ds =>
    obtain ⟨vs, h1, h2⟩ := h
    exact ⟨vs, by rw [e]; exact h1, h2.ext0 x⟩
  | dic ks =>
    obtain ⟨vs, h1, h2⟩ := h
    exact ⟨vs, by rw [e]; exact h1, h2.ext0 x⟩
theorem ClAt.ext0 (x : Ext0 g g') (e : g'.H a = g.H a) (h : ClAt K g a cl) : ClAt K g' a cl := by
  cases cl with
  | bd b => exact BdAt.ext0 x e h
  | ins C fs =>
    obtain ⟨dx, vs, h1, h2⟩ := h
    exact ⟨dx, vs, by rw [e]; exact h1, h2.ext0 x⟩
theorem LsF.ext (x : Ext g g') (h : LsF K g a vs) : LsF K g' a vs := h.ext0 x.z
theorem TpF.ext (x : Ext g g') (h : TpF K g a vs) : TpF K g' a vs := h.ext0 x.z
theorem Rp.ext (x : Ext g g') {d : Dv} {v : V} (h : Rp K g d v) : Rp K g' d v := Rp.ext0 x.z h
theorem Rps.ext (x : Ext g g') {ds : List Dv} {vs : List V} (h : Rps K g ds vs) : Rps K g' ds vs := Rps.ext0 x.z h
theorem Rpk.ext (x : Ext g g') {ds : List (Key × Dv)} {vs : List (Key × V)} (h : Rpk K g ds vs) : Rpk K g' ds vs := Rpk.ext0 x.z h
theorem Rpf.ext (x : Ext g g') {ds : List (Str × Dv)} {vs : List (Str × V)} (h : Rpf K g ds vs) : Rpf K g' ds vs := Rpf.ext0 x.z h
theorem BdAt.ext (x : Ext g g') (e : g'.H a = g.H a) (h : BdAt K g a b) : BdAt K g' a b := BdAt.ext0 x.z e h
theorem ClAt.ext (x : Ext g g') (e : g'.H a = g.H a) (h : ClAt K g a cl) : ClAt K g' a cl := ClAt.ext0 x.z e h
theorem BdAt.has (h : BdAt K g a b) : ∃ o, g.H a = some o := by
  cases b with
  | lst ds => exact ⟨_, h.choose_spec.1⟩
  | dic ks => exact ⟨_, h.choose_spec.1⟩
theorem ClAt.has (h : ClAt K g a cl) : ∃ o, g.H a = some o := by
  cases cl with
  | bd b => exact BdAt.has h
  | ins C fs =>
    obtain ⟨dx, vs, h1, h2⟩ := h
    exact ⟨_, h1⟩
theorem BdAt.rp (h : BdAt K g a b) (n : g.c a = 0) : Rp K g b.d (.ref a) := by
  cases b with
  | lst ds =>
    obtain ⟨vs, h1, h2⟩ := h
    exact .lst ⟨n, h1⟩ h2
  | dic ks =>
    obtain ⟨vs, h1, h2⟩ := h
    exact .dic ⟨n, .inl h1⟩ h2
theorem Rps.len : ∀ {ds : List Dv} {vs : List V}, Rps K g ds vs → ds.length = vs.length
  | _, _, .nil => rfl
  | _, _, .cons _ r => congrArg (· + 1) (Rps.len r)
theorem Rps.get : ∀ {ds : List Dv} {vs : List V} {i : Nat} {d : Dv}, Rps K g ds vs → ds[i]? = some d → ∃ v, vs[i]? = some v ∧ Rp K g d v
  | _, _, _, _, .nil, e => by simp at e
  | _, _, 0, _, .cons h _, e => ⟨_, rfl, by simp at e; rw [← e]; exact h⟩
  | _, _, i + 1, _, .cons _ r, e => by
    obtain ⟨v, h1, h2⟩ := Rps.get (i := i) r (by simpa using e)
    exact ⟨v, by simpa using h1, h2⟩
theorem Rps.getV : ∀ {ds : List Dv} {vs : List V} {i : Nat} {v : V}, Rps K g ds vs → vs[i]? = some v → ∃ d, ds[i]? = some d ∧ Rp K g d v
  | _, _, _, _, .nil, e => by simp at e
  | _, _, 0, _, .cons h _, e => ⟨_, rfl, by simp at e; rw [← e]; exact h⟩
  | _, _, i + 1, _, .cons _ r, e => by
    obtain ⟨d, h1, h2⟩ := Rps.getV (i := i) r (by simpa using e)
    exact ⟨d, by simpa using h1, h2⟩
theorem Rps.app : ∀ {ds es : List Dv} {vs us : List V}, Rps K g ds vs → Rps K g es us → Rps K g (ds ++ es) (vs ++ us)
  | _, _, _, _, .nil, s => s
  | _, _, _, _, .cons h r, s => .cons h (Rps.app r s)
theorem Rps.one (h : Rp K g d v) : Rps K g [d] [v] := .cons h .nil
theorem Rps.take : ∀ {ds : List Dv} {vs : List V} (n : Nat), Rps K g ds vs → Rps K g (ds.take n) (vs.take n)
  | _, _, 0, _ => by simpa using Rps.nil
  | _, _, n + 1, .nil => by simpa using Rps.nil
  | _, _, n + 1, .cons h r => .cons h (Rps.take n r)
theorem Rps.drop : ∀ {ds : List Dv} {vs : List V} (n : Nat), Rps K g ds vs → Rps K g (ds.drop n) (vs.drop n)
  | _, _, 0, h => h
  | _, _, n + 1, .nil => .nil
  | _, _, n + 1, .cons h r => Rps.drop n r
theorem Rps.set (h : Rp K g d v) : ∀ {ds : List Dv} {vs : List V} (n : Nat), Rps K g ds vs → Rps K g (ds.set n d) (vs.set n v)
  | _, _, _, .nil => .nil
  | _, _, 0, .cons _ r => .cons h r
  | _, _, n + 1, .cons q r => .cons q (Rps.set h n r)
theorem Rps.erase : ∀ {ds : List Dv} {vs : List V} (n : Nat), Rps K g ds vs → Rps K g (ds.eraseIdx n) (vs.eraseIdx n)
  | _, _, _, .nil => by simpa using Rps.nil
  | _, _, 0, .cons _ r => by simpa using r
  | _, _, n + 1, .cons q r => by simpa using Rps.cons q (Rps.erase n r)
theorem Rps.dropLast : ∀ {ds : List Dv} {vs : List V}, Rps K g ds vs → Rps K g ds.dropLast vs.dropLast
  | _, _, .nil => .nil
  | _, _, .cons _ .nil => .nil
  | _, _, .cons h (.cons h' r) => .cons h (Rps.dropLast (.cons h' r))
theorem Rps.ints_eq : ∀ {ns : List Int} {vs : List V}, Rps K g (ns.map Dv.int) vs → vs = ns.map V.int
  | [], _, .nil => rfl
  | n :: r, _, .cons h t => by
    have e := Rps.ints_eq (ns := r) t
    cases h
    rw [e]
    rfl
theorem Rps.strs_eq : ∀ {ns : List Str} {vs : List V}, Rps K g (ns.map Dv.str) vs → vs = ns.map V.str
  | [], _, .nil => rfl
  | n :: r, _, .cons h t => by
    have e := Rps.strs_eq (ns := r) t
    cases h
    rw [e]
    rfl
theorem Rps.bls_eq : ∀ {ns : List Bool} {vs : List V}, Rps K g (ns.map Dv.bl) vs → vs = ns.map V.bl
  | [], _, .nil => rfl
  | n :: r, _, .cons h t => by
    have e := Rps.bls_eq (ns := r) t
    cases h
    rw [e]
    rfl
theorem Rps.ints : ∀ ns : List Int, Rps K g (ns.map Dv.int) (ns.map V.int)
  | [] => .nil
  | n :: r => .cons (.int n) (Rps.ints r)
theorem Rps.strs : ∀ ns : List Str, Rps K g (ns.map Dv.str) (ns.map V.str)
  | [] => .nil
  | n :: r => .cons (.str n) (Rps.strs r)
end
/-- a slot's value -/
def SlAt (K : PySem.W.Frag) (g0 g : Mo) (x : Option (Option V)) : Sl → Prop
  | .un => True
  | .fz d => ∃ v, x = some (some v) ∧ Rp K g d v
  | .ow b => ∃ a, x = some (some (.ref a)) ∧ g.c a = 2 ∧ g0.H a = none ∧ BdAt K g a b
structure Rel (K : PySem.W.Frag) (g0 g : Mo) (σ : L2.St) (s : S) : Prop where
  kp : Kp g0 g
  al : ∃ t, g.α = g0.α ++ t
  ln : g.α.length = s.st.length
  nd : g.α.Nodup
  ce : ∀ (n : Nat) (cl : Cl), s.st[n]? = some cl → ∃ a, g.α[n]? = some a ∧ g.c a = 1 ∧ ClAt K g a cl
  sl : σ.length = s.ρ.length
  at_ : ∀ (i : Nat) (x : Sl), s.ρ[i]? = some x → SlAt K g0 g σ[i]? x
  dj : ∀ (i j : Nat) (b b' : Bd) (a : Addr), s.ρ[i]? = some (.ow b) → s.ρ[j]? = some (.ow b') → σ[i]? = some (some (.ref a)) → σ[j]? = some (some (.ref a)) → i = j
/-- a value that has just come -/
def Tmp (K : PySem.W.Frag) (g0 g : Mo) (σ : L2.St) (s : S) (v : V) : Sl → Prop
  | .un => False
  | .fz d => Rp K g d v
  | .ow b => ∃ a, v = .ref a ∧ g.c a = 2 ∧ g0.H a = none ∧ BdAt K g a b ∧ ∀ (i : Nat) (b' : Bd), s.ρ[i]? = some (.ow b') → σ[i]? ≠ some (some (.ref a))
section
variable {K : PySem.W.Frag} {g0 g g' : Mo} {σ : L2.St} {s : S} {a p : Addr} {v : V} {d : Dv} {o : HO} {b : Bd} {k i n : Nat}
/-- nothing that the state knows has changed -/
theorem Rel.step (r : Rel K g0 g σ s) (kp : Kp g0 g') (ex : Ext0 g g') (al : g'.α = g.α) (P : Addr → Prop) (bt : But P g g') (nc : ∀ (n : Nat) (a : Addr), g.α[n]? = some a → ¬ P a)
    (ns : ∀ (i : Nat) (b : Bd) (a : Addr), s.ρ[i]? = some (.ow b) → σ[i]? = some (some (.ref a)) → ¬ P a) : Rel K g0 g' σ s where
  kp := kp
  al := by rw [al]; exact r.al
  ln := by rw [al]; exact r.ln
  nd := by rw [al]; exact r.nd
  ce := fun n cl h => by
    obtain ⟨a, h1, h2, h3⟩ := r.ce n cl h
    obtain ⟨o, ho⟩ := h3.has
    obtain ⟨z1, z2⟩ := bt a o ho (nc n a h1)
    exact ⟨a, by rw [al]; exact h1, by rw [z1]; exact h2, h3.ext0 ex (by rw [z2, ho])⟩
  sl := r.sl
  at_ := fun i x h => by
    have q := r.at_ i x h
    cases x with
    | un => trivial
    | fz d =>
      obtain ⟨v, e, w⟩ := q
      exact ⟨v, e, w.ext0 ex⟩
    | ow b =>
      obtain ⟨a, e, h2, h3, h4⟩ := q
      obtain ⟨o, ho⟩ := h4.has
      obtain ⟨z1, z2⟩ := bt a o ho (ns i b a h e)
      exact ⟨a, e, by rw [z1]; exact h2, h3, h4.ext0 ex (by rw [z2, ho])⟩
  dj := r.dj
theorem cells_live (r : Rel K g0 g σ s) (h : g.α[n]? = some a) : ∃ o, g.H a = some o ∧ g.c a = 1 := by
  have hn : n < s.st.length := by rw [← r.ln]; exact (List.getElem?_eq_some_iff.mp h).1
  obtain ⟨a', h1, h2, h3⟩ := r.ce n _ (List.getElem?_eq_getElem hn)
  rw [h] at h1
  cases h1
  obtain ⟨o, ho⟩ := h3.has
  exact ⟨o, ho, h2⟩
theorem slot_live (r : Rel K g0 g σ s) (h : s.ρ[i]? = some (.ow b)) (e : σ[i]? = some (some (.ref a))) : ∃ o, g.H a = some o ∧ g.c a = 2 ∧ g0.H a = none ∧ BdAt K g a b := by
  obtain ⟨a', e', h2, h3, h4⟩ := r.at_ i _ h
  rw [e] at e'
  cases e'
  obtain ⟨o, ho⟩ := h4.has
  exact ⟨o, ho, h2, h3, h4⟩
/-- a new object of any colour -/
def Mo.new (g : Mo) (p : Addr) (k : Nat) (o : HO) : Mo := ⟨cst g.c p k, upd g.H p o, g.α⟩
theorem ext_new (h : g.H p = none) : Ext g (g.new p k o) := ⟨fun b u q n => by
  have ne := ne_of_none q h
  exact ⟨by show cst _ _ _ _ = _; rw [cst_ne ne], by show upd _ _ _ _ = _; rw [upd_ne ne]; exact q⟩, [], by simp [Mo.new]⟩
theorem kp_new (x : Kp g0 g) (h : g.H p = none) : Kp g0 (g.new p k o) := by
  have hp := x.fresh h
  refine ⟨fun b u q => ?_, fun b u q n => ?_, fun b u q => ?_⟩
  · show cst _ _ _ _ = _
    rw [cst_ne (ne_of_none q hp)]
    exact x.col b u q
  · show upd _ _ _ _ = _
    rw [upd_ne (ne_of_none q hp)]
    exact x.keep b u q n
  · obtain ⟨u', q'⟩ := x.live b u q
    exact ⟨u', by show upd _ _ _ _ = _; rw [upd_ne (ne_of_none q hp)]; exact q'⟩
theorem Rel.new (r : Rel K g0 g σ s) (h : g.H p = none) : Rel K g0 (g.new p k o) σ s :=
  r.step (kp_new r.kp h) (ext_new h).z rfl (fun b => b = p) (fun b u q n => ⟨by show cst _ _ _ _ = _; rw [cst_ne n], by show upd _ _ _ _ = _; rw [upd_ne n]; exact q⟩)
    (fun n a e z => by
      obtain ⟨o, ho, _⟩ := cells_live r e
      rw [z, h] at ho
      cases ho)
    (fun i b a e1 e2 z => by
      obtain ⟨o, ho, _⟩ := slot_live r e1 e2
      rw [z, h] at ho
      cases ho)
/-- a value of one's own is from now on for ever -/
def Mo.col (g : Mo) (p : Addr) (k : Nat) : Mo := ⟨cst g.c p k, g.H, g.α⟩
theorem ext_col (h : g.c p = 1 ∨ g.c p = 2) : Ext g (g.col p k) := ⟨fun b u q n => ⟨by
  show cst _ _ _ _ = _
  rw [cst_ne (fun z => by rw [z] at n; omega)], q⟩, [], by simp [Mo.col]⟩
theorem kp_col (x : Kp g0 g) (h : g0.H p = none) : Kp g0 (g.col p k) :=
  ⟨fun b u q => by show cst _ _ _ _ = _; rw [cst_ne (ne_of_none q h)]; exact x.col b u q, x.keep, x.live⟩
theorem Rel.freeze (r : Rel K g0 g σ s) (h2 : g.c p = 2) (h0 : g0.H p = none) (n : ∀ (i : Nat) (b' : Bd), s.ρ[i]? = some (.ow b') → σ[i]? ≠ some (some (.ref p))) : Rel K g0 (g.col p 0) σ s :=
  r.step (kp_col r.kp h0) (ext_col (.inr h2)).z rfl (fun b => b = p) (fun b u q n => ⟨by show cst _ _ _ _ = _; rw [cst_ne n], q⟩)
    (fun n a e z => by
      obtain ⟨o, ho, h1⟩ := cells_live r e
      rw [z, h2] at h1
      cases h1)
    (fun i b a e1 e2 z => n i b e1 (by rw [e2, z]))
theorem Tmp.fz {x : Sl} (r : Rel K g0 g σ s) (t : Tmp K g0 g σ s v x) : ∃ g', g'.H = g.H ∧ Rel K g0 g' σ s ∧ Ext g g' ∧ Rp K g' x.d v := by
  cases x with
  | un => exact t.elim
  | fz d => exact ⟨g, rfl, r, Ext.refl, t⟩
  | ow b =>
    obtain ⟨a, rfl, h2, h0, hb, n⟩ := t
    have ex : Ext g (g.col a 0) := ext_col (.inr h2)
    exact ⟨g.col a 0, rfl, r.freeze h2 h0 n, ex, BdAt.rp (hb.ext ex rfl) cst_same⟩
/-- a slot gets a value -/
def S.put (s : S) (i : Nat) (x : Sl) : S := { s with ρ := s.ρ.set i x }
theorem Rel.put {x : Sl} (r : Rel K g0 g σ s) (t : Tmp K g0 g σ s v x) : Rel K g0 g (σ.set i (some v)) (s.put i x) where
  kp := r.kp
  al := r.al
  ln := r.ln
  nd := r.nd
  ce := r.ce
  sl := by rw [List.length_set, r.sl]; show _ = (s.ρ.set i x).length; rw [List.length_set]
  at_ := fun j y h => by
    have h : (s.ρ.set i x)[j]? = some y := h
    by_cases z : i = j
    · subst z
      have hi : i < s.ρ.length := by
        have := (List.getElem?_eq_some_iff.mp h).1
        rw [List.length_set] at this
        exact this
      rw [List.getElem?_set_self hi] at h
      cases h
      have e : (σ.set i (some v))[i]? = some (some v) := List.getElem?_set_self (by rw [r.sl]; exact hi)
      rw [e]
      cases x with
      | un => trivial
      | fz d => exact ⟨v, rfl, t⟩
      | ow b =>
        obtain ⟨a, rfl, h2, h0, hb, n⟩ := t
        exact ⟨a, rfl, h2, h0, hb⟩
    · rw [List.getElem?_set_ne z] at h ⊢
      exact r.at_ j y h
  dj := fun j l b b' a h1 h2 e1 e2 => by
    have h1 : (s.ρ.set i x)[j]? = some (.ow b) := h1
    have h2 : (s.ρ.set i x)[l]? = some (.ow b') := h2
    have key : ∀ {l : Nat} {b b' : Bd}, (s.ρ.set i x)[i]? = some (.ow b) → i ≠ l → (s.ρ.set i x)[l]? = some (.ow b') → (σ.set i (some v))[i]? = some (some (.ref a)) → (σ.set i (some v))[l]? = some (some (.ref a)) → False := fun {l b b'} q1 ne q2 f1 f2 => by
      have hi : i < s.ρ.length := by
        have := (List.getElem?_eq_some_iff.mp q1).1
        rw [List.length_set] at this
        exact this
      rw [List.getElem?_set_self hi] at q1
      rw [List.getElem?_set_self (by rw [r.sl]; exact hi)] at f1
      rw [List.getElem?_set_ne ne] at q2 f2
      cases q1
      cases f1
      obtain ⟨a', e, _, _, _, n⟩ := t
      cases e
      exact n l b' q2 f2
    by_cases z : i = j
    · subst z
      by_cases y : i = l
      · exact y
      · exact (key h1 y h2 e1 e2).elim
    · by_cases y : i = l
      · subst y
        exact (key h2 z h1 e2 e1).elim
      · rw [List.getElem?_set_ne z] at h1 e1
        rw [List.getElem?_set_ne y] at h2 e2
        exact r.dj j l b b' a h1 h2 e1 e2
/-- a slot is forgotten, or its value is for ever -/
theorem Rel.weak {σ' : L2.St} {ρ' : List Sl} (r : Rel K g0 g σ s) (hl : σ'.length = ρ'.length) (h : ∀ (i : Nat) (x : Sl), ρ'[i]? = some x → x = .un ∨ (s.ρ[i]? = some x ∧ σ'[i]? = σ[i]?)) : Rel K g0 g σ' { s with ρ := ρ' } where
  kp := r.kp
  al := r.al
  ln := r.ln
  nd := r.nd
  ce := r.ce
  sl := hl
  at_ := fun j y q => by
    rcases h j y q with e | ⟨e1, e2⟩
    · subst e
      trivial
    · rw [e2]
      exact r.at_ j y e1
  dj := fun j l b b' a h1 h2 e1 e2 => by
    rcases h j _ h1 with e | ⟨q1, q2⟩
    · cases e
    rcases h l _ h2 with e | ⟨q3, q4⟩
    · cases e
    exact r.dj j l b b' a q1 q3 (by rw [← q2]; exact e1) (by rw [← q4]; exact e2)
/-- another frame -/
theorem Rel.chg {σ' : L2.St} {ρ' : List Sl} (r : Rel K g0 g σ s) (hl : σ'.length = ρ'.length) (h : ∀ (i : Nat) (x : Sl), ρ'[i]? = some x → x = .un ∨ (∃ d v, x = .fz d ∧ σ'[i]? = some (some v) ∧ Rp K g d v) ∨ (s.ρ[i]? = some x ∧ σ'[i]? = σ[i]?)) : Rel K g0 g σ' { s with ρ := ρ' } where
  kp := r.kp
  al := r.al
  ln := r.ln
  nd := r.nd
  ce := r.ce
  sl := hl
  at_ := fun j y q => by
    rcases h j y q with e | ⟨d, v, e, e1, e2⟩ | ⟨e1, e2⟩
    · subst e
      trivial
    · subst e
      exact ⟨v, e1, e2⟩
    · rw [e2]
      exact r.at_ j y e1
  dj := fun j l b b' a h1 h2 e1 e2 => by
    rcases h j _ h1 with e | ⟨d, v, e, _⟩ | ⟨q1, q2⟩
    · cases e
    · cases e
    rcases h l _ h2 with e | ⟨d, v, e, _⟩ | ⟨q3, q4⟩
    · cases e
    · cases e
    exact r.dj j l b b' a q1 q3 (by rw [← q2]; exact e1) (by rw [← q4]; exact e2)
/-- the value of a slot, for ever -/
theorem Rel.fzslot (r : Rel K g0 g σ s) (h : s.ρ[i]? = some (.ow b)) : ∃ a, σ[i]? = some (some (.ref a)) ∧ Rel K g0 (g.col a 0) σ (s.put i (.fz b.d)) ∧ Ext g (g.col a 0) ∧ Rp K (g.col a 0) b.d (.ref a) := by
  obtain ⟨a, e, h2, h0, hb⟩ := r.at_ i _ h
  have ex : Ext g (g.col a 0) := ext_col (.inr h2)
  have rp : Rp K (g.col a 0) b.d (.ref a) := BdAt.rp (hb.ext ex rfl) cst_same
  have hi : i < s.ρ.length := (List.getElem?_eq_some_iff.mp h).1
  -- the slot forgotten first
  have r1 : Rel K g0 g σ { s with ρ := s.ρ.set i .un } := r.weak (by rw [List.length_set, r.sl]) fun j x q => by
    by_cases z : i = j
    · subst z
      rw [List.getElem?_set_self hi] at q
      cases q
      exact .inl rfl
    · rw [List.getElem?_set_ne z] at q
      exact .inr ⟨q, rfl⟩
  have r2 : Rel K g0 (g.col a 0) σ { s with ρ := s.ρ.set i .un } := r1.freeze h2 h0 fun j b' q1 q2 => by
    have q1 : (s.ρ.set i .un)[j]? = some (.ow b') := q1
    by_cases z : i = j
    · subst z
      rw [List.getElem?_set_self hi] at q1
      cases q1
    · rw [List.getElem?_set_ne z] at q1
      exact z (r.dj i j b b' a h q1 e q2)
  have r3 := r2.put (i := i) (x := .fz b.d) (v := .ref a) rp
  have e1 : σ.set i (some (.ref a)) = σ := by
    apply List.ext_getElem?
    intro j
    by_cases z : i = j
    · subst z
      rw [List.getElem?_set_self (by rw [r.sl]; exact hi), e]
    · rw [List.getElem?_set_ne z]
  have e2 : ({ s with ρ := s.ρ.set i .un } : S).put i (.fz b.d) = s.put i (.fz b.d) := by
    unfold S.put
    simp
  rw [e1, e2] at r3
  exact ⟨a, e, r3, ex, rp⟩
/-- an object is rewritten -/
def Mo.wr (g : Mo) (a : Addr) (o : HO) : Mo := ⟨g.c, upd g.H a o, g.α⟩
theorem ext_wr (h : g.c a = 1 ∨ g.c a = 2) : Ext g (g.wr a o) := ⟨fun b u q n => ⟨rfl, by
  show upd _ _ _ _ = _
  rw [upd_ne (fun z => by rw [z] at n; omega)]
  exact q⟩, [], by simp [Mo.wr]⟩
theorem kp_wr (x : Kp g0 g) (h : g.c a = 1 ∨ g0.H a = none) : Kp g0 (g.wr a o) := by
  refine ⟨x.col, fun b u q n => ?_, fun b u q => ?_⟩
  · have ne : b ≠ a := fun z => by
      subst z
      rcases h with h | h
      · exact n (by rw [← x.col b u q]; exact h)
      · rw [h] at q
        cases q
    show upd _ _ _ _ = _
    rw [upd_ne ne]
    exact x.keep b u q n
  · by_cases z : b = a
    · subst z
      exact ⟨o, upd_same⟩
    · obtain ⟨u', q'⟩ := x.live b u q
      exact ⟨u', by show upd _ _ _ _ = _; rw [upd_ne z]; exact q'⟩
/-- a slot's own thing is rewritten -/
theorem Rel.wrSlot {b' : Bd} (r : Rel K g0 g σ s) (h : s.ρ[i]? = some (.ow b)) (e : σ[i]? = some (some (.ref a))) (new : BdAt K (g.wr a o) a b') : Rel K g0 (g.wr a o) σ (s.put i (.ow b')) ∧ Ext g (g.wr a o) := by
  obtain ⟨o1, ho, h2, h0, hb⟩ := slot_live r h e
  have ex : Ext g (g.wr a o) := ext_wr (.inr h2)
  have hi : i < s.ρ.length := (List.getElem?_eq_some_iff.mp h).1
  have nc : ∀ (n : Nat) (x : Addr), g.α[n]? = some x → x ≠ a := fun n x q z => by
    obtain ⟨_, _, h1⟩ := cells_live r q
    rw [z, h2] at h1
    cases h1
  refine ⟨⟨kp_wr r.kp (.inr h0), r.al, r.ln, r.nd, fun n cl q => ?_, by rw [r.sl]; show _ = (s.ρ.set i _).length; rw [List.length_set], fun j x q => ?_, fun j l b1 b2 x q1 q2 e1 e2 => ?_⟩, ex⟩
  · obtain ⟨x, q1, q2, q3⟩ := r.ce n cl q
    exact ⟨x, q1, q2, q3.ext ex (by show upd _ _ _ _ = _; rw [upd_ne (nc n x q1)])⟩
  · have q : (s.ρ.set i (.ow b'))[j]? = some x := q
    by_cases z : i = j
    · subst z
      rw [List.getElem?_set_self hi] at q
      cases q
      exact ⟨a, e, h2, h0, new⟩
    · rw [List.getElem?_set_ne z] at q
      have w := r.at_ j x q
      cases x with
      | un => trivial
      | fz d =>
        obtain ⟨v, f1, f2⟩ := w
        exact ⟨v, f1, f2.ext ex⟩
      | ow b1 =>
        obtain ⟨y, f1, f2, f3, f4⟩ := w
        exact ⟨y, f1, f2, f3, f4.ext ex (by
          show upd _ _ _ _ = _
          rw [upd_ne]
          intro y2
          subst y2
          exact z (r.dj i j b b1 y h q e f1))⟩
  · have q1 : (s.ρ.set i (.ow b'))[j]? = some (.ow b1) := q1
    have q2 : (s.ρ.set i (.ow b'))[l]? = some (.ow b2) := q2
    have back : ∀ {j : Nat} {b1 : Bd}, (s.ρ.set i (.ow b'))[j]? = some (.ow b1) → ∃ b3, s.ρ[j]? = some (.ow b3) := fun {j b1} q => by
      by_cases z : i = j
      · subst z
        exact ⟨b, h⟩
      · rw [List.getElem?_set_ne z] at q
        exact ⟨b1, q⟩
    obtain ⟨_, w1⟩ := back q1
    obtain ⟨_, w2⟩ := back q2
    exact r.dj j l _ _ x w1 w2 e1 e2
/-- a cell is rewritten -/
def S.cell (s : S) (n : Nat) (cl : Cl) : S := { s with st := s.st.set n cl }
theorem Rel.wrCell {cl : Cl} (r : Rel K g0 g σ s) (h : g.α[n]? = some a) (new : ClAt K (g.wr a o) a cl) : Rel K g0 (g.wr a o) σ (s.cell n cl) ∧ Ext g (g.wr a o) := by
  obtain ⟨o1, ho, h1⟩ := cells_live r h
  have ex : Ext g (g.wr a o) := ext_wr (.inl h1)
  have hn : n < s.st.length := by rw [← r.ln]; exact (List.getElem?_eq_some_iff.mp h).1
  refine ⟨⟨kp_wr r.kp (.inl h1), r.al, by show _ = (s.st.set n cl).length; rw [List.length_set]; exact r.ln, r.nd, fun m c2 q => ?_, r.sl, fun j x q => ?_, r.dj⟩, ex⟩
  · have q : (s.st.set n cl)[m]? = some c2 := q
    by_cases z : n = m
    · subst z
      rw [List.getElem?_set_self hn] at q
      cases q
      exact ⟨a, h, h1, new⟩
    · rw [List.getElem?_set_ne z] at q
      obtain ⟨x, q1, q2, q3⟩ := r.ce m c2 q
      refine ⟨x, q1, q2, q3.ext ex ?_⟩
      show upd _ _ _ _ = _
      rw [upd_ne]
      intro y
      subst y
      exact z (nodup_get r.nd h q1)
  · have w := r.at_ j x q
    cases x with
    | un => trivial
    | fz d =>
      obtain ⟨v, f1, f2⟩ := w
      exact ⟨v, f1, f2.ext ex⟩
    | ow b1 =>
      obtain ⟨y, f1, f2, f3, f4⟩ := w
      exact ⟨y, f1, f2, f3, f4.ext ex (by
        show upd _ _ _ _ = _
        rw [upd_ne]
        intro y2
        subst y2
        have : g.c y = 2 := f2
        rw [h1] at this
        cases this)⟩
where
  nodup_get {l : List Addr} (nd : l.Nodup) {i j : Nat} {x : Addr} (h1 : l[i]? = some x) (h2 : l[j]? = some x) : i = j := by
    obtain ⟨a1, b1⟩ := List.getElem?_eq_some_iff.mp h1
    obtain ⟨a2, b2⟩ := List.getElem?_eq_some_iff.mp h2
    exact (List.getElem_inj nd).mp (b1.trans b2.symm)
/-- a thing of one's own is from now on a cell -/
def Mo.box (g : Mo) (p : Addr) : Mo := ⟨cst g.c p 1, g.H, g.α ++ [p]⟩
theorem Rel.box {cl : Cl} (r : Rel K g0 g σ s) (h2 : g.c p = 2) (h0 : g0.H p = none) (hb : ClAt K g p cl) (ns : ∀ (i : Nat) (b' : Bd), s.ρ[i]? = some (.ow b') → σ[i]? ≠ some (some (.ref p))) :
    Rel K g0 (g.box p) σ { s with st := s.st ++ [cl] } ∧ Ext g (g.box p) ∧ Rp K (g.box p) (.obj s.st.length) (.ref p) := by
  have ex : Ext g (g.box p) := ⟨fun b u q n => ⟨by
    show cst _ _ _ _ = _
    rw [cst_ne (fun z => by rw [z, h2] at n; omega)], q⟩, [p], rfl⟩
  have np : ∀ (n : Nat) (x : Addr), g.α[n]? = some x → x ≠ p := fun n x q z => by
    obtain ⟨_, _, h1⟩ := cells_live r q
    rw [z, h2] at h1
    cases h1
  refine ⟨⟨⟨fun b u q => ?_, fun b u q n => r.kp.keep b u q n, r.kp.live⟩, ?_, ?_, ?_, fun m c2 q => ?_, r.sl, fun j x q => ?_, r.dj⟩, ex, .obj ?_⟩
  · show cst _ _ _ _ = _
    rw [cst_ne (ne_of_none q h0)]
    exact r.kp.col b u q
  · obtain ⟨t, e⟩ := r.al
    exact ⟨t ++ [p], by show g.α ++ [p] = _; rw [e, List.append_assoc]⟩
  · show (g.α ++ [p]).length = (s.st ++ [cl]).length
    rw [List.length_append, List.length_append, r.ln]
    rfl
  · show (g.α ++ [p]).Nodup
    rw [List.nodup_append]
    refine ⟨r.nd, by simp, fun x hx y hy => ?_⟩
    rw [List.mem_singleton.mp hy]
    obtain ⟨n, hn⟩ := List.getElem?_of_mem hx
    exact np n x hn
  · have q : (s.st ++ [cl])[m]? = some c2 := q
    by_cases hm : m < s.st.length
    · rw [List.getElem?_append_left hm] at q
      obtain ⟨x, q1, q2, q3⟩ := r.ce m c2 q
      exact ⟨x, ex.at q1, by show cst _ _ _ _ = _; rw [cst_ne (np m x q1)]; exact q2, q3.ext ex rfl⟩
    · rw [List.getElem?_append_right (by omega)] at q
      have e : m - s.st.length = 0 := by
        have := (List.getElem?_eq_some_iff.mp q).1
        simp at this
        omega
      rw [e] at q
      simp at q
      subst q
      have em : m = g.α.length := by rw [r.ln]; omega
      exact ⟨p, by show (g.α ++ [p])[m]? = _; rw [em]; simp, cst_same, hb.ext ex rfl⟩
  · have w := r.at_ j x q
    cases x with
    | un => trivial
    | fz d =>
      obtain ⟨v, f1, f2⟩ := w
      exact ⟨v, f1, f2.ext ex⟩
    | ow b1 =>
      obtain ⟨y, f1, f2, f3, f4⟩ := w
      refine ⟨y, f1, ?_, f3, f4.ext ex rfl⟩
      show cst _ _ _ _ = _
      rw [cst_ne (fun z => ns j b1 q (by rw [f1, z]))]
      exact f2
  · show (g.α ++ [p])[s.st.length]? = _
    rw [← r.ln]
    simp
end
end VL

/-! V2: the judgements over plain states; constants, names, operators, comparisons, tests. -/
namespace VL
open PySem PySem.Spec PyProof.Rows L2
/-! ### readings that ask just what is needed -/
structure uE (X : Cx) (e : Expr) (σ : L2.St) (H : Hp) (Q : VK) : Prop where
  run : ∀ (pins : List (Addr × Obj)) (s : Shared), Inv X pins σ H s → wpAny (model X.prog X.w) X.A (eval e X.env) (EP X pins σ Q) X.xe s
structure uC (X : Cx) (e : Expr) (σ : L2.St) (H : Hp) (Q : Bool → Hp → Prop) : Prop where
  run : ∀ (pins : List (Addr × Obj)) (s : Shared), Inv X pins σ H s → wpAny (model X.prog X.w) X.A (isTrue e X.env (eval e X.env)) (TP X pins σ Q) X.xe s
structure uW (X : Cx) (e : Expr) (σ : L2.St) (H : Hp) (Q : Bool → Hp → Prop) : Prop where
  run : ∀ (whole : Sem Value) (pins : List (Addr × Obj)) (s : Shared), Inv X pins σ H s → wpAny (model X.prog X.w) X.A (isTrue e X.env whole) (TP X pins σ Q) X.xe s
structure uA (X : Cx) (es : List Expr) (σ : L2.St) (H : Hp) (Q : List V → Hp → Prop) : Prop where
  run : ∀ (pos : Pos) (pins : List (Addr × Obj)) (s : Shared), Inv X pins σ H s → wpAny (model X.prog X.w) X.A (spliced (backTo pos (starEach es X.env))) (AP X pins σ Q) X.xe s
structure uS (X : Cx) (st : Stmt) (D : Ends) (σ : L2.St) (H : Hp) : Prop where
  run : ∀ (pins : List (Addr × Obj)) (s : Shared), Inv X pins σ H s → wpAny (model X.prog X.w) X.A (exec st X.env) (SP X pins D) X.xe s
structure uSs (X : Cx) (st : List Stmt) (D : Ends) (σ : L2.St) (H : Hp) : Prop where
  run : ∀ (pins : List (Addr × Obj)) (s : Shared), Inv X pins σ H s → wpAny (model X.prog X.w) X.A (execs st X.env) (SP X pins D) X.xe s
structure uG (X : Cx) (tg : Expr) (v : V) (σ : L2.St) (H : Hp) (Q : L2.St → Hp → Prop) : Prop where
  run : ∀ (pins : List (Addr × Obj)) (s : Shared) (u : Value), Inv X pins σ H s → RelV v u →
    wpAny (model X.prog X.w) X.A (assign tg X.env u) (fun _ s' => ∃ σ' H', Inv X pins σ' H' s' ∧ Q σ' H') X.xe s
def uR (X : Cx) (f : Value → Value → Sem Value) : R2 := fun x y H Q => ∀ (pins : List (Addr × Obj)) (s : Shared) (σ : L2.St) (v u : Value), Inv X pins σ H s → RelV x v → RelV y u → wpAny (model X.prog X.w) X.A (f v u) (EP X pins σ Q) X.xe s
def uU (X : Cx) (f : Value → Sem Value) : V → Hp → VK → Prop := fun x H Q => ∀ (pins : List (Addr × Obj)) (s : Shared) (σ : L2.St) (v : Value), Inv X pins σ H s → RelV x v → wpAny (model X.prog X.w) X.A (f v) (EP X pins σ Q) X.xe s
def uF (X : Cx) (f : Value) : List V → Hp → VK → Prop := fun xs H Q => ∀ (pins : List (Addr × Obj)) (s : Shared) (σ : L2.St) (us : List Value), Inv X pins σ H s → Vals xs us → wpAny (model X.prog X.w) X.A (call f us) (EP X pins σ Q) X.xe s
def uM (X : Cx) (id : String) : V → List V → Hp → VK → Prop := fun x xs H Q => ∀ (pins : List (Addr × Obj)) (s : Shared) (σ : L2.St) (v : Value) (us : List Value), Inv X pins σ H s → RelV x v → Vals xs us →
    wpAny (model X.prog X.w) X.A (call (.builtin id) (v :: us)) (EP X pins σ Q) X.xe s
def uX (X : Cx) : R2 := fun x y H Q => ∀ (value slice : Expr) (pins : List (Addr × Obj)) (s : Shared) (σ : L2.St) (v u : Value), Inv X pins σ H s → RelV x v → RelV y u →
    subscripted slice false v u = operate [v, u] (getItem v u) → wpAny (model X.prog X.w) X.A (subscriptTail value slice v u) (EP X pins σ Q) X.xe s
section
variable {X : Cx} {e : Expr} {es : List Expr} {st : Stmt} {sts : List Stmt} {σ : L2.St} {H : Hp}
theorem pe_u : PE X e (uE X e) := ⟨fun pins s σ H Q I h => h.run pins s I⟩
theorem pt_u : PT X e (uC X e) := ⟨fun pins s σ H Q I h => h.run pins s I⟩
theorem pw_u : PW X e (uW X e) := ⟨fun wh pins s σ H Q I h => h.run wh pins s I⟩
theorem pa_u : PA X es (uA X es) := ⟨fun pos pins s σ H Q I h => h.run pos pins s I⟩
theorem ps_u : PS X st (uS X st) := ⟨fun pins s σ H D I h => h.run pins s I⟩
theorem pss_u : PSs X sts (uSs X sts) := ⟨fun pins s σ H D I h => h.run pins s I⟩
theorem pg_u : PG X e (uG X e) := ⟨fun pins s σ H v u Q I r h => h.run pins s u I r⟩
theorem or_u {f : Value → Value → Sem Value} : OpR X f (uR X f) := fun pins s σ H x y v u Q I rx ry h => h pins s σ v u I rx ry
theorem un_u {f : Value → Sem Value} : UnR X f (uU X f) := fun pins s σ H x v Q I rx h => h pins s σ v I rx
theorem cr_u {f : Value} : CallR X f (uF X f) := fun pins s σ H xs us Q I r h => h pins s σ us I r
theorem mr_u {id : String} : MtR X id (uM X id) := fun pins s σ H x xs v us Q I rx r h => h pins s σ v us I rx r
theorem ix_u : IxR X (uX X) := fun value slice pins s σ H x y v u Q I rx ry h hs => h value slice pins s σ v u I rx ry hs
theorem peu {t : TE} (h : PE X e t) {Q : VK} (q : t σ H Q) : uE X e σ H Q := ⟨fun pins s I => h.run pins s σ H Q I q⟩
theorem ptu {t : TT} (h : PT X e t) {Q : Bool → Hp → Prop} (q : t σ H Q) : uC X e σ H Q := ⟨fun pins s I => h.run pins s σ H Q I q⟩
theorem pwu {t : TT} (h : PW X e t) {Q : Bool → Hp → Prop} (q : t σ H Q) : uW X e σ H Q := ⟨fun wh pins s I => h.run wh pins s σ H Q I q⟩
theorem pau {t : TA} (h : PA X es t) {Q : List V → Hp → Prop} (q : t σ H Q) : uA X es σ H Q := ⟨fun pos pins s I => h.run pos pins s σ H Q I q⟩
theorem psu {t : TS} (h : PS X st t) {D : Ends} (q : t D σ H) : uS X st D σ H := ⟨fun pins s I => h.run pins s σ H D I q⟩
theorem pssu {t : TS} (h : PSs X sts t) {D : Ends} (q : t D σ H) : uSs X sts D σ H := ⟨fun pins s I => h.run pins s σ H D I q⟩
theorem pgu {t : TG} (h : PG X e t) {v : V} {Q : L2.St → Hp → Prop} (q : t v σ H Q) : uG X e v σ H Q := ⟨fun pins s u I r => h.run pins s σ H v u Q I r q⟩
theorem oru {f : Value → Value → Sem Value} {r : R2} (h : OpR X f r) {x y : V} {Q : VK} (q : r x y H Q) : uR X f x y H Q := fun pins s σ v u I rx ry => h pins s σ H x y v u Q I rx ry q
theorem unu {f : Value → Sem Value} {r : V → Hp → VK → Prop} (h : UnR X f r) {x : V} {Q : VK} (q : r x H Q) : uU X f x H Q := fun pins s σ v I rx => h pins s σ H x v Q I rx q
theorem cru {f : Value} {r : List V → Hp → VK → Prop} (h : CallR X f r) {xs : List V} {Q : VK} (q : r xs H Q) : uF X f xs H Q := fun pins s σ us I rx => h pins s σ H xs us Q I rx q
theorem mru {id : String} {r : V → List V → Hp → VK → Prop} (h : MtR X id r) {x : V} {xs : List V} {Q : VK} (q : r x xs H Q) : uM X id x xs H Q := fun pins s σ v us I rx rs => h pins s σ H x xs v us Q I rx rs q
theorem ixu {r : R2} (h : IxR X r) {x y : V} {Q : VK} (q : r x y H Q) : uX X x y H Q := fun value slice pins s σ v u I rx ry hs => h value slice pins s σ H x y v u Q I rx ry q hs
end
/-! ### the judgements -/
structure Exn where
  cls : Value
  fld : Option (Str × Dv)
def ExAt (K : PySem.W.Frag) (g : Mo) (ex : Exn) (cls : Value) (d : Option Addr) : Prop :=
  cls = ex.cls ∧ match ex.fld with
    | none => d = none
    | some (f, x) => ∃ p v, d = some p ∧ g.c p = 0 ∧ g.H p = some (.xd [(f, v)]) ∧ Rp K g x v
/-- what is wished of an exception -/
abbrev RK := Exn → S → Prop
abbrev VT := RK → S → (Sl → S → Prop) → Prop
abbrev VTC := RK → S → (Bool → S → Prop) → Prop
abbrev VTA := RK → S → (List Dv → S → Prop) → Prop
def Cov (K : PySem.W.Frag) (g0 g : Mo) (W : WX) (R : RK) : Prop := ∀ ex s' σ g' cls d, Rel K g0 g' σ s' → Ext g g' → ExAt K g' ex cls d → R ex s' → W cls d σ g'.H
theorem Cov.ext {K : PySem.W.Frag} {g0 g g' : Mo} {W : WX} {R : RK} (c : Cov K g0 g W R) (x : Ext g g') : Cov K g0 g' W R := fun ex s' σ g2 cls d r e ea h => c ex s' σ g2 cls d r (x.trans e) ea h
def CkE (K : PySem.W.Frag) (g0 g : Mo) (σ : L2.St) (Q : Sl → S → Prop) (QV : VK) : Prop := ∀ g' s' v x, Rel K g0 g' σ s' → Ext g g' → Tmp K g0 g' σ s' v x → Q x s' → QV v g'.H
def CkF (K : PySem.W.Frag) (g0 g : Mo) (σ : L2.St) (Q : Dv → S → Prop) (QV : VK) : Prop := ∀ g' s' v d, Rel K g0 g' σ s' → Ext g g' → Rp K g' d v → Q d s' → QV v g'.H
def CkA (K : PySem.W.Frag) (g0 g : Mo) (σ : L2.St) (Q : List Dv → S → Prop) (QV : List V → Hp → Prop) : Prop := ∀ g' s' vs ds, Rel K g0 g' σ s' → Ext g g' → Rps K g' ds vs → Q ds s' → QV vs g'.H
def CkC (K : PySem.W.Frag) (g0 g : Mo) (σ : L2.St) (Q : Bool → S → Prop) (QV : Bool → Hp → Prop) : Prop := ∀ g' s' b, Rel K g0 g' σ s' → Ext g g' → Q b s' → QV b g'.H
def VE (X : Cx) (W : WX) (e : Expr) (t : VT) : Prop := ∀ g0 g σ s R Q QV, Rel X.K g0 g σ s → Cov X.K g0 g W R → CkE X.K g0 g σ Q QV → t R s Q → uE X e σ g.H QV
def VA (X : Cx) (W : WX) (es : List Expr) (t : VTA) : Prop := ∀ g0 g σ s R Q QV, Rel X.K g0 g σ s → Cov X.K g0 g W R → CkA X.K g0 g σ Q QV → t R s Q → uA X es σ g.H QV
def VC (X : Cx) (W : WX) (e : Expr) (t : VTC) : Prop := ∀ g0 g σ s R Q QV, Rel X.K g0 g σ s → Cov X.K g0 g W R → CkC X.K g0 g σ Q QV → t R s Q → uC X e σ g.H QV
def VW (X : Cx) (W : WX) (e : Expr) (t : VTC) : Prop := ∀ g0 g σ s R Q QV, Rel X.K g0 g σ s → Cov X.K g0 g W R → CkC X.K g0 g σ Q QV → t R s Q → uW X e σ g.H QV
section
variable {X : Cx} {W : WX} {e a b c : Expr} {es : List Expr} {ta tb tc t : VT} {g0 g g' : Mo} {σ : L2.St} {s : S} {R : RK} {pos : Pos}
theorem VE.fz {Q : Dv → S → Prop} {QV : VK} (h : VE X W e t) (r : Rel X.K g0 g σ s) (cv : Cov X.K g0 g W R) (k : CkF X.K g0 g σ Q QV) (q : t R s fun x s' => Q x.d s') : uE X e σ g.H QV :=
  h g0 g σ s R (fun x s' => Q x.d s') QV r cv (fun g' s' v x r' ex tm qx => by
    obtain ⟨g2, eH, r2, ex2, rp⟩ := tm.fz r'
    rw [← eH]
    exact k g2 s' v x.d r2 (ex.trans ex2) rp qx) q
theorem VW.vc {t : VTC} (h : VW X W e t) : VC X W e t := fun g0 g σ s R Q QV r cv k q => ⟨fun pins sh I => (h g0 g σ s R Q QV r cv k q).run _ pins sh I⟩
/-! ### constants and names -/
def vC (d : Dv) : VT := fun _ s Q => Q (.fz d) s
theorem ve_con {v : V} {d : Dv} (h : PE X e (tC v)) (r : ∀ g, Rp X.K g d v) : VE X W e (vC d) := fun g0 g σ s R Q QV rl cv k q => peu h (k g s v (.fz d) rl Ext.refl (r g) q)
theorem ve_int {i : Int} {j : Nat} : VE X W (.Constant (.int i) j pos) (vC (.int i)) := ve_con pe_int fun _ => .int i
theorem ve_bl {b : Bool} {j : Nat} : VE X W (.Constant (.bool b) j pos) (vC (.bl b)) := ve_con pe_bl fun _ => .bl b
theorem ve_non {j : Nat} : VE X W (.Constant .none j pos) (vC .non) := ve_con pe_non fun _ => .non
theorem ve_str {x : Str} {j : Nat} : VE X W (.Constant (.str x) j pos) (vC (.str x)) := ve_con pe_str fun _ => .str x
def vVar (i : Nat) : VT := fun _ s Q => match s.ρ[i]? with
  | some (.fz d) => Q (.fz d) s
  | some (.ow b) => Q (.fz b.d) (s.put i (.fz b.d))
  | _ => False
theorem ve_name {i : Nat} {x : Str} (hN : X.N[i]? = some x) (hv : Vis X.env.scope x) (hd : (x == ("__debug__" : Str)) = false := by decide) (hcd : (x == ("__classdict__" : Str)) = false := by decide) : VE X W (.Name x pos) (vVar i) := by
  intro g0 g σ s R Q QV r cv k q
  refine peu (pe_var hN hv hd hcd) ?_
  unfold vVar at q
  split at q
  · rename_i d h
    obtain ⟨v, e, rp⟩ := r.at_ i _ h
    exact ⟨v, e, k g s v (.fz d) r Ext.refl rp q⟩
  · rename_i b h
    obtain ⟨a, e, r', ex, rp⟩ := r.fzslot h
    exact ⟨.ref a, e, k (g.col a 0) _ (.ref a) (.fz b.d) r' ex rp q⟩
  · exact q.elim
/-! ### places: what is only read -/
inductive Pl where
  | val (d : Dv) | slot (i : Nat)
abbrev VTP := RK → S → (Pl → S → Prop) → Prop
def PlAt (K : PySem.W.Frag) (g : Mo) (σ : L2.St) (v : V) : Pl → Prop
  | .val d => Rp K g d v
  | .slot i => σ[i]? = some (some v)
theorem PlAt.ext {K : PySem.W.Frag} {v : V} {p : Pl} (x : Ext g g') (h : PlAt K g σ v p) : PlAt K g' σ v p := by
  cases p with
  | val d => exact Rp.ext x h
  | slot i => exact h
def CkP (K : PySem.W.Frag) (g0 g : Mo) (σ : L2.St) (Q : Pl → S → Prop) (QV : VK) : Prop := ∀ g' s' v p, Rel K g0 g' σ s' → Ext g g' → PlAt K g' σ v p → Q p s' → QV v g'.H
def VP (X : Cx) (W : WX) (e : Expr) (t : VTP) : Prop := ∀ g0 g σ s R Q QV, Rel X.K g0 g σ s → Cov X.K g0 g W R → CkP X.K g0 g σ Q QV → t R s Q → uE X e σ g.H QV
def pVal (t : VT) : VTP := fun R s Q => t R s fun x s' => Q (.val x.d) s'
def pVar (i : Nat) : VTP := fun _ s Q => match s.ρ[i]? with
  | some (.fz _) => Q (.slot i) s
  | some (.ow _) => Q (.slot i) s
  | _ => False
theorem vp_val (h : VE X W e t) : VP X W e (pVal t) := fun g0 g σ s R Q QV r cv k q => h.fz (Q := fun d s' => Q (.val d) s') r cv (fun g' s' v d r' ex rp qx => k g' s' v (.val d) r' ex rp qx) q
theorem vp_name {i : Nat} {x : Str} (hN : X.N[i]? = some x) (hv : Vis X.env.scope x) (hd : (x == ("__debug__" : Str)) = false := by decide) (hcd : (x == ("__classdict__" : Str)) = false := by decide) : VP X W (.Name x pos) (pVar i) := by
  intro g0 g σ s R Q QV r cv k q
  refine peu (pe_var hN hv hd hcd) ?_
  unfold pVar at q
  split at q
  · rename_i d h
    obtain ⟨v, e, rp⟩ := r.at_ i _ h
    exact ⟨v, e, k g s v (.slot i) r Ext.refl e q⟩
  · rename_i b h
    obtain ⟨a, e, _⟩ := r.at_ i _ h
    exact ⟨.ref a, e, k g s (.ref a) (.slot i) r Ext.refl e q⟩
  · exact q.elim
def rslv (st : List Cl) : Dv → Dv
  | .obj n => match st[n]? with
    | some (.bd b) => b.d
    | _ => .obj n
  | d => d
/-- what stands at a place -/
def look (s : S) (p : Pl) (k : Dv → Prop) : Prop := match p with
  | .val d => k (rslv s.st d)
  | .slot i => match s.ρ[i]? with
    | some (.fz d) => k (rslv s.st d)
    | some (.ow b) => k b.d
    | _ => False
def View (K : PySem.W.Frag) (g : Mo) (v : V) : Dv → Prop
  | .lst ds => ∃ a vs, v = .ref a ∧ g.H a = some (.lst vs) ∧ Rps K g ds vs
  | .dic ks => ∃ a kvs, v = .ref a ∧ Rd g.H a (.dK kvs) ∧ Rpk K g ks kvs
  | d => Rp K g d v
theorem Rp.view {K : PySem.W.Frag} {v : V} {d : Dv} (h : Rp K g d v) : View K g v d := by
  cases h with
  | lst h r => exact ⟨_, _, rfl, h.2, r⟩
  | dic h r => exact ⟨_, _, rfl, h.2, r⟩
  | non => exact .non
  | bl b => exact .bl b
  | int b => exact .int b
  | str b => exact .str b
  | ty b => exact .ty b
  | raw => exact .raw _
  | tup h r => exact .tup h r
  | obj h => exact .obj h
  | xob h r => exact .xob h r
  | scr h => exact .scr h
theorem BdAt.view {K : PySem.W.Frag} {a : Addr} {b : Bd} (h : BdAt K g a b) : View K g (.ref a) b.d := by
  cases b with
  | lst ds =>
    obtain ⟨vs, h1, h2⟩ := h
    exact ⟨a, vs, rfl, h1, h2⟩
  | dic ks =>
    obtain ⟨vs, h1, h2⟩ := h
    exact ⟨a, vs, rfl, .inl h1, h2⟩
theorem rslv_view {K : PySem.W.Frag} {v : V} {d : Dv} (r : Rel K g0 g σ s) (h : Rp K g d v) : View K g v (rslv s.st d) := by
  unfold rslv
  split
  · rename_i n
    split
    · rename_i b hb
      cases h with
      | obj h =>
        obtain ⟨a, e1, _, e2⟩ := r.ce n _ hb
        rw [h] at e1
        cases e1
        exact BdAt.view e2
    · exact h.view
  · exact h.view
theorem look_view {K : PySem.W.Frag} {v : V} {p : Pl} {k : Dv → Prop} (r : Rel K g0 g σ s) (h : PlAt K g σ v p) (q : look s p k) : ∃ d, View K g v d ∧ k d := by
  unfold look at q
  split at q
  · exact ⟨_, rslv_view r h, q⟩
  · rename_i i
    split at q
    · rename_i d hd
      obtain ⟨v', e, rp⟩ := r.at_ i _ hd
      have h : σ[i]? = some (some v) := h
      rw [h] at e
      cases e
      exact ⟨_, rslv_view r rp, q⟩
    · rename_i b hb
      obtain ⟨a, e, _, _, hb⟩ := r.at_ i _ hb
      have h : σ[i]? = some (some v) := h
      rw [h] at e
      cases e
      exact ⟨_, BdAt.view hb, q⟩
    · exact q.elim
/-! ### operators -/
/-- behind an operator -/
def CkO (K : PySem.W.Frag) (g0 g : Mo) (σ : L2.St) (s : S) (Q : Sl → Prop) (QV : VK) : Prop := ∀ g' v x, Rel K g0 g' σ s → Ext g g' → Tmp K g0 g' σ s v x → Q x → QV v g'.H
theorem CkO.fz {K : PySem.W.Frag} {g0 g : Mo} {σ : L2.St} {s : S} {Q : Sl → Prop} {QV : VK} {d : Dv} {v : V} (k : CkO K g0 g σ s Q QV) (r : Rel K g0 g σ s) (rp : Rp K g d v) (h : Q (.fz d)) : QV v g.H := k g v (.fz d) r Ext.refl rp h
def OpV (X : Cx) (f : Value → Value → Sem Value) (F : Dv → Dv → (Sl → Prop) → Prop) : Prop := ∀ g0 g σ s x y v u Q QV, Rel X.K g0 g σ s → Rp X.K g x v → Rp X.K g y u → CkO X.K g0 g σ s Q QV → F x y Q → uR X f v u g.H QV
def vBin (F : Dv → Dv → (Sl → Prop) → Prop) (ta tb : VT) : VT := fun R s Q => ta R s fun x s => tb R s fun y s => F x.d y.d fun z => Q z s
theorem bin_core {f : Value → Value → Sem Value} {F : Dv → Dv → (Sl → Prop) → Prop} (ho : OpV X f F) (ha : VE X W a ta) (hb : VE X W b tb) {Q : Sl → S → Prop} {QV : VK} (r : Rel X.K g0 g σ s) (cv : Cov X.K g0 g W R) (k : CkE X.K g0 g σ Q QV)
    (q : vBin F ta tb R s Q) : tOp (uR X f) (uE X a) (uE X b) σ g.H QV :=
  ha.fz (Q := fun x s => tb R s fun y s => F x y.d fun z => Q z s) r cv (fun g1 s1 v x r1 ex1 rp1 q1 =>
    hb.fz (Q := fun y s => F x y fun z => Q z s) r1 (cv.ext ex1) (fun g2 s2 u y r2 ex2 rp2 q2 =>
      ho g0 g2 σ s2 x y v u _ QV r2 (rp1.ext ex2) rp2 (fun g3 w z r3 ex3 tm q3 => k g3 s2 w z r3 ((ex1.trans ex2).trans ex3) tm q3) q2) q1) q
theorem ve_bin {op : Operator} {F : Dv → Dv → (Sl → Prop) → Prop} (ho : OpV X (binaryOp op) F) (ha : VE X W a ta) (hb : VE X W b tb) : VE X W (.BinOp a op b pos) (vBin F ta tb) :=
  fun g0 g σ s R Q QV r cv k q => peu (pe_op or_u pe_u pe_u) (bin_core ho ha hb r cv k q)
/-- a new list, a new dict of one's own; a new tuple -/
theorem new_ow {K : PySem.W.Frag} {p : Addr} {ds : List Dv} {vs : List V} (r : Rel K g0 g σ s) (h : g.H p = none) (rs : Rps K g ds vs) :
    Rel K g0 (g.new p 2 (.lst vs)) σ s ∧ Ext g (g.new p 2 (.lst vs)) ∧ Tmp K g0 (g.new p 2 (.lst vs)) σ s (.ref p) (.ow (.lst ds)) := by
  refine ⟨r.new h, ext_new h, p, rfl, cst_same, r.kp.fresh h, ⟨vs, upd_same, rs.ext (ext_new h)⟩, fun i b e1 e2 => ?_⟩
  obtain ⟨o, ho, _⟩ := slot_live r e1 e2
  rw [h] at ho
  cases ho
theorem new_dic {K : PySem.W.Frag} {p : Addr} {ds : List (Key × Dv)} {vs : List (Key × V)} (r : Rel K g0 g σ s) (h : g.H p = none) (rs : Rpk K g ds vs) :
    Rel K g0 (g.new p 2 (.dK vs)) σ s ∧ Ext g (g.new p 2 (.dK vs)) ∧ Tmp K g0 (g.new p 2 (.dK vs)) σ s (.ref p) (.ow (.dic ds)) := by
  refine ⟨r.new h, ext_new h, p, rfl, cst_same, r.kp.fresh h, ⟨vs, upd_same, rs.ext (ext_new h)⟩, fun i b e1 e2 => ?_⟩
  obtain ⟨o, ho, _⟩ := slot_live r e1 e2
  rw [h] at ho
  cases ho
theorem new_tup {K : PySem.W.Frag} {p : Addr} {ds : List Dv} {vs : List V} (r : Rel K g0 g σ s) (h : g.H p = none) (rs : Rps K g ds vs) :
    Rel K g0 (g.new p 0 (.tup vs)) σ s ∧ Ext g (g.new p 0 (.tup vs)) ∧ Tmp K g0 (g.new p 0 (.tup vs)) σ s (.ref p) (.fz (.tup ds)) :=
  ⟨r.new h, ext_new h, .tup (.inl ⟨cst_same, upd_same⟩) (rs.ext (ext_new h))⟩
def addD (x y : Dv) (Q : Sl → Prop) : Prop := match x, y with
  | .int a, .int b => Q (.fz (.int (a + b)))
  | .str a, .str b => a.length + b.length ≤ sizeLine ∧ Q (.fz (.str (a ++ b)))
  | .lst a, .lst b => a.length + b.length ≤ sizeLine ∧ Q (.ow (.lst (a ++ b)))
  | .tup a, .tup b => a.length + b.length ≤ sizeLine ∧ Q (.fz (.tup (a ++ b)))
  | _, _ => False
theorem ov_add : OpV X (binaryOp .Add) addD := by
  intro g0 g σ s x y v u Q QV r rx ry k h
  unfold addD at h
  split at h
  · cases rx; cases ry
    exact oru op_add ⟨_, _, rfl, rfl, k.fz r (Rp.int _) h⟩
  · cases rx; cases ry
    exact oru op_add_str ⟨_, _, rfl, rfl, h.1, k.fz r (Rp.str _) h.2⟩
  · cases rx with
    | lst hx rx =>
    cases ry with
    | lst hy ry =>
    refine oru op_cat ⟨_, _, _, _, rfl, rfl, hx.2, hy.2, by rw [← rx.len, ← ry.len]; exact h.1, fun p hp => ?_⟩
    obtain ⟨r1, e1, t1⟩ := new_ow r hp (rx.app ry)
    exact k _ _ _ r1 e1 t1 h.2
  · cases rx with
    | tup hx rx' =>
    cases ry with
    | tup hy ry' =>
    refine oru op_catA ⟨_, _, _, _, rfl, rfl, hx.sq, hy.sq, by rw [← rx'.len, ← ry'.len]; exact h.1, fun e => ?_, fun _ e => ?_, fun _ _ p hp => ?_⟩
    · subst e
      cases rx'
      exact k.fz r (Rp.tup hy ry') h.2
    · subst e
      cases ry'
      have h2 := h.2
      rw [List.append_nil] at h2
      exact k.fz r (Rp.tup hx rx') h2
    · obtain ⟨r1, e1, t1⟩ := new_tup r hp (rx'.app ry')
      exact k _ _ _ r1 e1 t1 h.2
  · exact h.elim
def subD (x y : Dv) (Q : Sl → Prop) : Prop := match x, y with
  | .int a, .int b => Q (.fz (.int (a - b)))
  | _, _ => False
theorem ov_sub : OpV X (binaryOp .Sub) subD := by
  intro g0 g σ s x y v u Q QV r rx ry k h
  unfold subD at h
  split at h
  · cases rx; cases ry
    exact oru op_sub ⟨_, _, rfl, rfl, k.fz r (Rp.int _) h⟩
  · exact h.elim
def MulOk (a b : Int) : Prop := CMul a b ∨ CMulW a b
def mulD (x y : Dv) (Q : Sl → Prop) : Prop := match x, y with
  | .int a, .int b => MulOk a b ∧ Q (.fz (.int (a * b)))
  | .str a, .int n => -1000000 ≤ n ∧ n ≤ 1000000 ∧ a.length * n.toNat ≤ 1000000 ∧ Q (.fz (.str (strRep a n.toNat)))
  | .lst a, .int n => -(2 ^ 63) ≤ n ∧ n < 2 ^ 63 ∧ a.length * n.toNat ≤ sizeLine ∧ Q (.ow (.lst (List.replicate n.toNat a).flatten))
  | _, _ => False
theorem Rps.rep {K : PySem.W.Frag} {ds : List Dv} {vs : List V} (h : Rps K g ds vs) : ∀ n : Nat, Rps K g (List.replicate n ds).flatten (List.replicate n vs).flatten
  | 0 => .nil
  | n + 1 => by
    rw [List.replicate_succ, List.replicate_succ, List.flatten_cons, List.flatten_cons]
    exact h.app (Rps.rep h n)
theorem ov_mul : OpV X (binaryOp .Mult) mulD := by
  intro g0 g σ s x y v u Q QV r rx ry k h
  unfold mulD at h
  split at h
  · cases rx; cases ry
    rcases h with ⟨h | h, q⟩
    · exact oru op_mul ⟨_, _, rfl, rfl, h, k.fz r (Rp.int _) q⟩
    · exact oru op_mulW ⟨_, _, rfl, rfl, h, k.fz r (Rp.int _) q⟩
  · cases rx; cases ry
    exact oru op_repS ⟨_, _, rfl, rfl, h.1, h.2.1, h.2.2.1, k.fz r (Rp.str _) h.2.2.2⟩
  · cases rx with
    | lst hx rx =>
    cases ry
    refine oru op_rep ⟨_, _, _, rfl, rfl, hx.2, h.1, h.2.1, by rw [← rx.len]; exact h.2.2.1, fun p hp => ?_⟩
    obtain ⟨r1, e1, t1⟩ := new_ow r hp (rx.rep _)
    exact k _ _ _ r1 e1 t1 h.2.2.2
  · exact h.elim
def fdivD (x y : Dv) (Q : Sl → Prop) : Prop := match x, y with
  | .int a, .int b => CDivW a b ∧ Q (.fz (.int (a / b)))
  | _, _ => False
theorem ov_fdiv : OpV X (binaryOp .FloorDiv) fdivD := by
  intro g0 g σ s x y v u Q QV r rx ry k h
  unfold fdivD at h
  split at h
  · cases rx; cases ry
    exact oru op_fdivW ⟨_, _, rfl, rfl, h.1, k.fz r (Rp.int _) h.2⟩
  · exact h.elim
def modD (x y : Dv) (Q : Sl → Prop) : Prop := match x, y with
  | .int a, .int b => 0 < b ∧ Q (.fz (.int (a % b)))
  | _, _ => False
theorem ov_mod : OpV X (binaryOp .Mod) modD := by
  intro g0 g σ s x y v u Q QV r rx ry k h
  unfold modD at h
  split at h
  · cases rx; cases ry
    exact oru op_mod ⟨_, _, rfl, rfl, h.1, k.fz r (Rp.int _) h.2⟩
  · exact h.elim
def powD (x y : Dv) (Q : Sl → Prop) : Prop := match x, y with
  | .int a, .int b => CPow a b ∧ Q (.fz (.int (a ^ b.toNat)))
  | _, _ => False
theorem ov_pow : OpV X (binaryOp .Pow) powD := by
  intro g0 g σ s x y v u Q QV r rx ry k h
  unfold powD at h
  split at h
  · cases rx; cases ry
    exact oru op_pow ⟨_, _, rfl, rfl, h.1, k.fz r (Rp.int _) h.2⟩
  · exact h.elim
def vUn (F : Dv → (Sl → Prop) → Prop) (ta : VT) : VT := fun R s Q => ta R s fun x s => F x.d fun z => Q z s
def negD (x : Dv) (Q : Sl → Prop) : Prop := match x with
  | .int a => Q (.fz (.int (-a)))
  | _ => False
theorem ve_neg (ha : VE X W a ta) : VE X W (.UnaryOp .USub a pos) (vUn negD ta) := by
  intro g0 g σ s R Q QV r cv k q
  refine peu (pe_un un_neg pe_u) (ha.fz (Q := fun x s => negD x fun z => Q z s) r cv (fun g1 s1 v x r1 ex rp q1 => ?_) q)
  unfold negD at q1
  dsimp only at q1
  split at q1
  · cases rp
    exact ⟨_, rfl, k g1 s1 _ (.fz (.int _)) r1 ex (Rp.int _) q1⟩
  · exact q1.elim
/-! ### comparisons -/
def scD : Dv → Dv → Option Bool
  | .int a, .int b => some (decide (a = b))
  | .str a, .str b => some (decide (a = b))
  | .bl a, .bl b => some (decide (a = b))
  | .non, .non => some true
  | .non, .int _ => some false
  | .int _, .non => some false
  | .non, .bl _ => some false
  | .bl _, .non => some false
  | .non, .str _ => some false
  | .str _, .non => some false
  | .int _, .str _ => some false
  | .str _, .int _ => some false
  | .bl _, .str _ => some false
  | .str _, .bl _ => some false
  | _, _ => none
mutual
def Dv.pd : Dv → Option PyData
  | .non => some .none
  | .bl b => some (.bool b)
  | .int i => some (.int i)
  | .str s => some (.str s)
  | .lst ds => (pds ds).map .list
  | .tup ds => (pds ds).map .tuple
  | _ => none
def pds : List Dv → Option (List PyData)
  | [] => some []
  | d :: ds => match d.pd, pds ds with
    | some x, some xs => some (x :: xs)
    | _, _ => none
end
mutual
theorem Rp.dp {K : PySem.W.Frag} : ∀ {d : Dv} {v : V} {x : PyData}, Rp K g d v → d.pd = some x → Dp K g.H v x
  | _, _, _, .non, e => by simp [Dv.pd] at e; subst e; exact .non
  | _, _, _, .bl b, e => by simp [Dv.pd] at e; subst e; exact .bl b
  | _, _, _, .int b, e => by simp [Dv.pd] at e; subst e; exact .int b
  | _, _, _, .str b, e => by simp [Dv.pd] at e; subst e; exact .str b
  | _, _, _, .ty n, e => by simp [Dv.pd] at e
  | _, _, _, .raw n, e => by simp [Dv.pd] at e
  | _, _, _, .lst (ds := ds) h r, e => by
    unfold Dv.pd at e
    cases q : pds ds with
    | none => rw [q] at e; cases e
    | some xs =>
      rw [q] at e
      cases e
      exact .lst h.sq (Rps.dp r q)
  | _, _, _, .tup (ds := ds) h r, e => by
    unfold Dv.pd at e
    cases q : pds ds with
    | none => rw [q] at e; cases e
    | some xs =>
      rw [q] at e
      cases e
      exact .tup h.sq (Rps.dp r q)
  | _, _, _, .dic h r, e => by simp [Dv.pd] at e
  | _, _, _, .obj h, e => by simp [Dv.pd] at e
  | _, _, _, .xob h r, e => by simp [Dv.pd] at e
  | _, _, _, .scr h, e => by simp [Dv.pd] at e
theorem Rps.dp {K : PySem.W.Frag} : ∀ {ds : List Dv} {vs : List V} {xs : List PyData}, Rps K g ds vs → pds ds = some xs → DpAll K g.H vs xs
  | _, _, _, .nil, e => by simp [pds] at e; subst e; exact .nil
  | _, _, _, .cons (d := d) (ds := ds) h r, e => by
    unfold pds at e
    cases q1 : d.pd with
    | none => rw [q1] at e; cases e
    | some x =>
      cases q2 : pds ds with
      | none => rw [q1, q2] at e; cases e
      | some xs =>
        rw [q1, q2] at e
        cases e
        exact .cons (Rp.dp h q1) (Rps.dp r q2)
end
def eqDr (x y : Dv) (Q : Sl → Prop) : Prop := match scD x y with
  | some b => Q (.fz (.bl b))
  | none => ∃ d e, x.pd = some d ∧ y.pd = some e ∧ SeqAt.shaped d = true ∧ SeqAt.shaped e = true ∧ Q (.fz (.bl (PyData.eqv d e)))
structure eqD (x y : Dv) (Q : Sl → Prop) : Prop where
  h : eqDr x y Q
def neDr (x y : Dv) (Q : Sl → Prop) : Prop := match scD x y with
  | some b => Q (.fz (.bl (!b)))
  | none => ∃ d e, x.pd = some d ∧ y.pd = some e ∧ SeqAt.shaped d = true ∧ SeqAt.shaped e = true ∧ Q (.fz (.bl (!PyData.eqv d e)))
structure neD (x y : Dv) (Q : Sl → Prop) : Prop where
  h : neDr x y Q
theorem scD_v {K : PySem.W.Frag} {x y : Dv} {v u : V} {b : Bool} (rx : Rp K g x v) (ry : Rp K g y u) (h : scD x y = some b) : scal v u = true ∧ decide (v = u) = b := by
  unfold scD at h
  split at h
  · cases rx; cases ry; cases h; exact ⟨rfl, by simp⟩
  · cases rx; cases ry; cases h; exact ⟨rfl, by simp⟩
  · cases rx; cases ry; cases h; exact ⟨rfl, by simp⟩
  · cases rx; cases ry; cases h; exact ⟨rfl, by simp⟩
  · cases rx; cases ry; cases h; exact ⟨rfl, by simp⟩
  · cases rx; cases ry; cases h; exact ⟨rfl, by simp⟩
  · cases rx; cases ry; cases h; exact ⟨rfl, by simp⟩
  · cases rx; cases ry; cases h; exact ⟨rfl, by simp⟩
  · cases rx; cases ry; cases h; exact ⟨rfl, by simp⟩
  · cases rx; cases ry; cases h; exact ⟨rfl, by simp⟩
  · cases rx; cases ry; cases h; exact ⟨rfl, by simp⟩
  · cases rx; cases ry; cases h; exact ⟨rfl, by simp⟩
  · cases rx; cases ry; cases h; exact ⟨rfl, by simp⟩
  · cases rx; cases ry; cases h; exact ⟨rfl, by simp⟩
  · cases h
theorem ov_eq (hu : X.A.units + 64 < cLine) : OpV X (compareOp .Eq) eqD := by
  intro g0 g σ s x y v u Q QV r rx ry k h
  replace h := eqD.h h; unfold eqDr at h
  split at h
  · rename_i b hb
    obtain ⟨h1, h2⟩ := scD_v rx ry hb
    exact oru op_eq ⟨h1, by rw [h2]; exact k.fz r (Rp.bl b) h⟩
  · obtain ⟨d, e, h1, h2, h3, h4, q⟩ := h
    exact oru (op_eqD hu) ⟨d, e, rx.dp h1, ry.dp h2, h3, h4, k.fz r (Rp.bl _) q⟩
theorem ov_ne (hu : X.A.units + 64 < cLine) : OpV X (compareOp .NotEq) neD := by
  intro g0 g σ s x y v u Q QV r rx ry k h
  replace h := neD.h h; unfold neDr at h
  split at h
  · rename_i b hb
    obtain ⟨h1, h2⟩ := scD_v rx ry hb
    exact oru op_ne ⟨h1, by rw [h2]; exact k.fz r (Rp.bl _) h⟩
  · obtain ⟨d, e, h1, h2, h3, h4, q⟩ := h
    exact oru (op_neD hu) ⟨d, e, rx.dp h1, ry.dp h2, h3, h4, k.fz r (Rp.bl _) q⟩
def ordD (p : Int → Int → Bool) (z : Str → Str → Bool) (x y : Dv) (Q : Sl → Prop) : Prop := match x, y with
  | .int a, .int b => Q (.fz (.bl (p a b)))
  | .str a, .str b => Q (.fz (.bl (z a b)))
  | _, _ => False
abbrev ltD := ordD (fun a b => decide (a < b)) fun a b => decide (a.cps.toList < b.cps.toList)
theorem ov_lt : OpV X (compareOp .Lt) ltD := by
  intro g0 g σ s x y v u Q QV r rx ry k h
  unfold ltD ordD at h
  split at h
  · cases rx; cases ry
    exact oru op_lt ⟨_, _, rfl, rfl, k.fz r (Rp.bl _) h⟩
  · cases rx; cases ry
    exact oru op_lt_str ⟨_, _, rfl, rfl, k.fz r (Rp.bl _) h⟩
  · exact h.elim
end
end VL

/-! V3: membership, tests, displays, subscripts. -/
namespace VL
open PySem PySem.Spec PyProof.Rows L2
section
variable {X : Cx} {W : WX} {e a b c : Expr} {es rest : List Expr} {ta tb tc t : VT} {g0 g g' : Mo} {σ : L2.St} {s : S} {R : RK} {pos : Pos}
theorem ov_ord {op : CmpOp} {p : Int → Int → Bool} {z : Str → Str → Bool} (h1 : OpR X (compareOp op) (rI0 fun i j => .bl (p i j))) (h2 : OpR X (compareOp op) (fun x y H Q => ∃ i j, x = .str i ∧ y = .str j ∧ Q (.bl (z i j)) H)) : OpV X (compareOp op) (ordD p z) := by
  intro g0 g σ s x y v u Q QV r rx ry k h
  unfold ordD at h
  split at h
  · cases rx; cases ry
    exact oru h1 ⟨_, _, rfl, rfl, k.fz r (Rp.bl _) h⟩
  · cases rx; cases ry
    exact oru h2 ⟨_, _, rfl, rfl, k.fz r (Rp.bl _) h⟩
  · exact h.elim
abbrev leD := ordD (fun a b => decide (a ≤ b)) fun a b => !decide (b.cps.toList < a.cps.toList)
abbrev gtD := ordD (fun a b => decide (b < a)) fun a b => decide (b.cps.toList < a.cps.toList)
abbrev geD := ordD (fun a b => decide (b ≤ a)) fun a b => !decide (a.cps.toList < b.cps.toList)
theorem ov_le : OpV X (compareOp .LtE) leD := ov_ord op_le op_le_str
theorem ov_gt : OpV X (compareOp .Gt) gtD := ov_ord op_gt op_gt_str
theorem ov_ge : OpV X (compareOp .GtE) geD := ov_ord op_ge op_ge_str
/-! ### in -/
def Dv.flat : Dv → Bool
  | .non => true
  | .bl _ => true
  | .int _ => true
  | .str _ => true
  | _ => false
def eqF : Dv → Dv → Bool
  | .non, .non => true
  | .bl a, .bl b => a == b
  | .bl a, .int b => (if a then 1 else 0) == b
  | .int a, .bl b => a == (if b then 1 else 0)
  | .int a, .int b => a == b
  | .str a, .str b => a == b
  | _, _ => false
def Dv.key : Dv → Option Key
  | .int i => some (.inl i)
  | .str s => some (.inr s)
  | _ => none
def valD (ks : List (Key × Dv)) (k : Key) : Option Dv := (ks.find? fun kv => decide (kv.1 = k)).map (·.2)
def strIn (i z : Str) : Bool := match i.cps.toList with
  | [c] => decide (c ∈ z.cps.toList)
  | _ => !(Builtin.Str.occurrences z i 0 z.length 1).isEmpty
def inDr (x y : Dv) (k : Bool → Prop) : Prop := match y with
  | .lst ds => x.flat = true ∧ ds.all Dv.flat = true ∧ k (ds.any fun y => eqF y x)
  | .tup ds => x.flat = true ∧ ds.all Dv.flat = true ∧ k (ds.any fun y => eqF y x)
  | .str z => match x with
    | .str i => k (strIn i z)
    | _ => False
  | .dic ks => match x.key with
    | some q => k (valD ks q).isSome
    | none => False
  | _ => False
structure inD (x y : Dv) (k : Bool → Prop) : Prop where
  h : inDr x y k
theorem Rp.flat {K : PySem.W.Frag} {d : Dv} {v : V} (h : Rp K g d v) (f : d.flat = true) : flatV v = true := by
  cases h <;> first | rfl | cases f
theorem Rp.eqF {K : PySem.W.Frag} {d e : Dv} {v u : V} (h : Rp K g d v) (h' : Rp K g e u) (f : d.flat = true) (f' : e.flat = true) : eqV v u = VL.eqF d e := by
  cases h <;> cases h' <;> first | rfl | (cases f; done) | (cases f'; done)
theorem Rps.flat {K : PySem.W.Frag} : ∀ {ds : List Dv} {vs : List V}, Rps K g ds vs → ds.all Dv.flat = true → vs.all flatV = true
  | _, _, .nil, _ => rfl
  | _, _, .cons h r, f => by
    have f2 := Bool.and_eq_true_iff.mp f
    exact Bool.and_eq_true_iff.mpr ⟨h.flat f2.1, Rps.flat r f2.2⟩
theorem Rps.inV {K : PySem.W.Frag} {x : Dv} {v : V} (hx : Rp K g x v) (fx : x.flat = true) : ∀ {ds : List Dv} {vs : List V}, Rps K g ds vs → ds.all Dv.flat = true → inV v vs = ds.any fun y => eqF y x
  | _, _, .nil, _ => rfl
  | _, _, .cons h r, f => by
    have f2 := Bool.and_eq_true_iff.mp f
    have e := Rps.inV hx fx r f2.2
    unfold L2.inV at e ⊢
    rw [List.any_cons, List.any_cons, e, h.eqF hx f2.1 fx]
theorem Rp.key {K : PySem.W.Frag} {d : Dv} {v : V} {q : Key} (h : Rp K g d v) (f : d.key = some q) : v = kV q := by
  cases h <;> first | (cases f; rfl) | cases f
theorem Rpk.val {K : PySem.W.Frag} (q : Key) : ∀ {ks : List (Key × Dv)} {kvs : List (Key × V)}, Rpk K g ks kvs → (valV kvs q = none ∧ valD ks q = none) ∨ ∃ d v, valD ks q = some d ∧ valV kvs q = some v ∧ Rp K g d v
  | _, _, .nil => .inl ⟨rfl, rfl⟩
  | _, _, .cons (q := p) (d := d) (v := v) h r => by
    by_cases z : p = q
    · subst z
      exact .inr ⟨d, v, by simp [valD], by simp [valV], h⟩
    · have e1 : ∀ (d : Dv) ds, valD ((p, d) :: ds) q = valD ds q := fun d ds => by simp [valD, List.find?_cons, z]
      have e2 : ∀ (v : V) vs, valV ((p, v) :: vs) q = valV vs q := fun v vs => valV_neg z
      rw [e1, e2]
      exact Rpk.val q r
theorem Rpk.isSome {K : PySem.W.Frag} {q : Key} {ks : List (Key × Dv)} {kvs : List (Key × V)} (r : Rpk K g ks kvs) : (valV kvs q).isSome = (valD ks q).isSome := by
  rcases r.val q with ⟨a, b⟩ | ⟨d, v, a, b, _⟩ <;> rw [a, b] <;> rfl
theorem dget_rd {H : Hp} {a : Addr} {kvs : List (Key × V)} {q : Key} (h : Rd H a (.dK kvs)) : DGet H a (kV q) (valV kvs q) := .inl ⟨kvs, q, h, rfl, rfl⟩
theorem op_in_dict (hu : X.A.units + 1 < cLine) : OpR X (compareOp .In) (fun y x H Q => ∃ a o, x = .ref a ∧ DGet H a y o ∧ Q (.bl o.isSome) H) := by
  intro pins s σ H y x u v Q I ry rx h
  obtain ⟨a, o, rfl, g, q⟩ := h
  cases rx
  exact d_in hu I g ry fun s3 I3 => ⟨.bl o.isSome, H, I3, rfl, q⟩
theorem op_notin_dict (hu : X.A.units + 1 < cLine) : OpR X (compareOp .NotIn) (fun y x H Q => ∃ a o, x = .ref a ∧ DGet H a y o ∧ Q (.bl (!o.isSome)) H) := by
  intro pins s σ H y x u v Q I ry rx h
  obtain ⟨a, o, rfl, g, q⟩ := h
  cases rx
  exact d_notIn hu I g ry fun s3 I3 => ⟨.bl (!o.isSome), H, I3, rfl, q⟩
/-- x in y, by values -/
theorem in_val (neg : Bool) (hu : X.A.units + 1 < cLine) {x y : Dv} {v u : V} {k : Bool → Prop} {QV : VK} (rx : Rp X.K g x v) (ry : View X.K g u y) (h : inD x y k) (q : ∀ b, k b → QV (.bl (if neg then !b else b)) g.H) :
    uR X (compareOp (if neg then .NotIn else .In)) v u g.H QV := by
  replace h := inD.h h; unfold inDr at h
  split at h
  · obtain ⟨a, vs, rfl, hH, rs⟩ := ry
    obtain ⟨f1, f2, h⟩ := h
    have e := rs.inV rx f1 f2
    cases neg with
    | false => exact oru op_in_seq ⟨a, vs, rfl, .inl (SqL.of hH), rx.flat f1, rs.flat f2, by rw [e]; exact q _ h⟩
    | true => exact oru op_notIn_seq ⟨a, vs, rfl, .inl (SqL.of hH), rx.flat f1, rs.flat f2, by rw [e]; exact q _ h⟩
  · rename_i ds
    obtain ⟨f1, f2, h⟩ := h
    have ry : Rp X.K g (.tup ds) u := ry
    cases ry with
    | @tup a ds vs hH rs =>
    have e := rs.inV rx f1 f2
    cases neg with
    | false => exact oru op_in_seq ⟨a, vs, rfl, .inr hH.sq, rx.flat f1, rs.flat f2, by rw [e]; exact q _ h⟩
    | true => exact oru op_notIn_seq ⟨a, vs, rfl, .inr hH.sq, rx.flat f1, rs.flat f2, by rw [e]; exact q _ h⟩
  · rename_i z
    split at h
    · rename_i i
      have ry : Rp X.K g (.str z) u := ry
      cases rx
      cases ry
      unfold strIn at h
      split at h
      · rename_i c hc
        have ei : i = ⟨#[c]⟩ := by
          cases i
          rename_i l
          congr 1
          exact Array.ext' hc
        subst ei
        cases neg with
        | false => exact oru op_in_sign ⟨c, z, rfl, rfl, q _ h⟩
        | true => exact oru op_notIn_sign ⟨c, z, rfl, rfl, q _ h⟩
      · cases neg with
        | false => exact oru op_in_str ⟨_, _, rfl, rfl, q _ h⟩
        | true => exact oru op_notin_str ⟨_, _, rfl, rfl, q _ h⟩
    · exact h.elim
  · rename_i ks
    split at h
    · rename_i w hw
      obtain ⟨a, kvs, rfl, hH, rs⟩ := ry
      have ev := rx.key hw
      subst ev
      have es := rs.isSome (q := w)
      cases neg with
      | false => exact oru (op_in_dict hu) ⟨a, _, rfl, dget_rd hH, by rw [es]; exact q _ h⟩
      | true => exact oru (op_notin_dict hu) ⟨a, _, rfl, dget_rd hH, by rw [es]; exact q _ h⟩
    · exact h.elim
  · exact h.elim
def vIn (neg : Bool) (ta : VT) (tp : VTP) : VT := fun R s Q => ta R s fun x s => tp R s fun p s => look s p fun y => inD x.d y fun b => Q (.fz (.bl (if neg then !b else b))) s
theorem in_core {tp : VTP} (neg : Bool) (hu : X.A.units + 1 < cLine) (ha : VE X W a ta) (hb : VP X W b tp) {Q : Sl → S → Prop} {QV : VK} (r : Rel X.K g0 g σ s) (cv : Cov X.K g0 g W R) (k : CkE X.K g0 g σ Q QV)
    (q : vIn neg ta tp R s Q) : tOp (uR X (compareOp (if neg then .NotIn else .In))) (uE X a) (uE X b) σ g.H QV :=
  ha.fz (Q := fun x s => tp R s fun p s => look s p fun y => inD x y fun b => Q (.fz (.bl (if neg then !b else b))) s) r cv (fun g1 s1 v x r1 ex1 rp1 q1 =>
    hb g0 g1 σ s1 R (fun p s => look s p fun y => inD x y fun b => Q (.fz (.bl (if neg then !b else b))) s) _ r1 (cv.ext ex1) (fun g2 s2 u p r2 ex2 pl2 q2 => by
      obtain ⟨y, vw, q3⟩ := look_view r2 pl2 q2
      exact in_val neg hu (rp1.ext ex2) vw q3 fun b hb => k g2 s2 _ (.fz (.bl _)) r2 (ex1.trans ex2) (Rp.bl _) hb) q1) q
theorem ve_in {tp : VTP} (hu : X.A.units + 1 < cLine) (ha : VE X W a ta) (hb : VP X W b tp) (hm : behindInMarks .In b = false) : VE X W (.Compare a [.In] [b] pos) (vIn false ta tp) :=
  fun g0 g σ s R Q QV r cv k q => peu (pe_cmpR or_u pe_u pe_u hm) (in_core false hu ha hb r cv k q)
theorem ve_notin {tp : VTP} (hu : X.A.units + 1 < cLine) (ha : VE X W a ta) (hb : VP X W b tp) (hm : behindInMarks .NotIn b = false) : VE X W (.Compare a [.NotIn] [b] pos) (vIn true ta tp) :=
  fun g0 g σ s R Q QV r cv k q => peu (pe_cmpR or_u pe_u pe_u hm) (in_core true hu ha hb r cv k q)
theorem ve_cmp {op : CmpOp} {F : Dv → Dv → (Sl → Prop) → Prop} (ho : OpV X (compareOp op) F) (ha : VE X W a ta) (hb : VE X W b tb) (hm : behindInMarks op b = false) : VE X W (.Compare a [op] [b] pos) (vBin F ta tb) :=
  fun g0 g σ s R Q QV r cv k q => peu (pe_cmpR or_u pe_u pe_u hm) (bin_core ho ha hb r cv k q)
/-! ### is None -/
def Dv.isNon : Dv → Option Bool
  | .non => some true
  | .raw _ => none
  | _ => some false
def vIsN (neg : Bool) (ta : VT) : VT := fun R s Q => ta R s fun x s => match x.d.isNon with
  | some b => Q (.fz (.bl (if neg then !b else b))) s
  | none => False
theorem isNon_v {K : PySem.W.Frag} {d : Dv} {v : V} {b : Bool} (h : Rp K g d v) (e : d.isNon = some b) : decide (v = .non) = b := by
  cases h <;> first | (cases e; done) | (cases e; rfl)
theorem isN_core (neg : Bool) (ha : VE X W a ta) {j : Nat} {pos' : Pos} {Q : Sl → S → Prop} {QV : VK} (r : Rel X.K g0 g σ s) (cv : Cov X.K g0 g W R) (k : CkE X.K g0 g σ Q QV)
    (q : vIsN neg ta R s Q) : uE X a σ g.H fun x H1 => QV (.bl (if neg then !decide (x = .non) else decide (x = .non))) H1 :=
  ha.fz (Q := fun x s => match x.isNon with | some b => Q (.fz (.bl (if neg then !b else b))) s | none => False) r cv (fun g1 s1 v x r1 ex1 rp1 q1 => by
    dsimp only at q1
    split at q1
    · rename_i b hb
      rw [isNon_v rp1 hb]
      exact k g1 s1 _ (.fz (.bl _)) r1 ex1 (Rp.bl _) q1
    · exact q1.elim) q
theorem ve_isN {j : Nat} {pos' : Pos} (ha : VE X W a ta) : VE X W (.Compare a [.Is] [.Constant .none j pos'] pos) (vIsN false ta) :=
  fun g0 g σ s R Q QV r cv k q => peu (pe_cmp (pc_isN pe_u) rfl) (isN_core false ha (j := 0) (pos' := pos) r cv k q)
theorem ve_notN {j : Nat} {pos' : Pos} (ha : VE X W a ta) : VE X W (.Compare a [.IsNot] [.Constant .none j pos'] pos) (vIsN true ta) :=
  fun g0 g σ s R Q QV r cv k q => peu (pe_cmp (pc_notN pe_u) rfl) (isN_core true ha (j := 0) (pos' := pos) r cv k q)
/-! ### chains -/
def blD (x : Sl) (k : Bool → Prop) : Prop := match x with
  | .fz (.bl b) => k b
  | _ => False
def vChain (F F' : Dv → Dv → (Sl → Prop) → Prop) (ta tb tc : VT) : VT := fun R s Q => ta R s fun x s => tb R s fun y s => F x.d y.d fun z => blD z fun b => br b (tc R s fun w s => F' y.d w.d fun z' => Q z' s) (Q (.fz (.bl false)) s)
theorem ve_chain {op op' : CmpOp} {F F' : Dv → Dv → (Sl → Prop) → Prop} (ho : OpV X (compareOp op) F) (ho' : OpV X (compareOp op') F') (ha : VE X W a ta) (hb : VE X W b tb) (hc : VE X W c tc)
    (hm : lastMarks [op, op'] [b, c] = false := by rfl) : VE X W (.Compare a [op, op'] [b, c] pos) (vChain F F' ta tb tc) := by
  intro g0 g σ s R Q QV r cv k q
  refine peu (pe_chain (or_u (f := compareOp op)) (or_u (f := compareOp op')) pe_u pe_u pe_u hm) ?_
  refine ha.fz (Q := fun x s => tb R s fun y s => F x y.d fun z => blD z fun b => br b (tc R s fun w s => F' y.d w.d fun z' => Q z' s) (Q (.fz (.bl false)) s)) r cv (fun g1 s1 v x r1 ex1 rp1 q1 => ?_) q
  refine hb.fz (Q := fun y s => F x y fun z => blD z fun b => br b (tc R s fun w s => F' y w.d fun z' => Q z' s) (Q (.fz (.bl false)) s)) r1 (cv.ext ex1) (fun g2 s2 u y r2 ex2 rp2 q2 => ?_) q1
  refine ho g0 g2 σ s2 x y v u _ _ r2 (rp1.ext ex2) rp2 (fun g3 w z r3 ex3 tm q3 => ?_) q2
  unfold blD at q3
  split at q3
  · rename_i k0
    have tm : Rp X.K g3 (.bl k0) w := tm
    cases tm
    refine ⟨k0, rfl, ?_⟩
    cases k0 with
    | true =>
      rw [if_pos rfl]
      refine hc.fz (Q := fun w s => F' y w fun z' => Q z' s) r3 (cv.ext ((ex1.trans ex2).trans ex3)) (fun g4 s4 w4 d4 r4 ex4 rp4 q4 => ?_) q3
      exact ho' g0 g4 σ s4 y d4 u w4 _ _ r4 ((rp2.ext ex3).ext ex4) rp4 (fun g5 w5 z5 r5 ex5 tm5 q5 => k g5 s4 w5 z5 r5 ((((ex1.trans ex2).trans ex3).trans ex4).trans ex5) tm5 q5) q4
    | false =>
      rw [if_neg Bool.false_ne_true]
      exact k g3 s2 _ (.fz (.bl false)) r3 ((ex1.trans ex2).trans ex3) (Rp.bl _) q3
  · exact q3.elim
/-! ### and, or, not as values; if else -/
def vAnd (ta tb : VT) : VT := fun R s Q => ta R s fun x s => blD x fun b => br b (tb R s Q) (Q (.fz (.bl false)) s)
def vOr (ta tb : VT) : VT := fun R s Q => ta R s fun x s => blD x fun b => br b (Q (.fz (.bl true)) s) (tb R s Q)
def vNot (ta : VT) : VT := fun R s Q => ta R s fun x s => blD x fun b => Q (.fz (.bl (!b))) s
theorem CkE.ext {Q : Sl → S → Prop} {QV : VK} {K : PySem.W.Frag} (k : CkE K g0 g σ Q QV) (x : Ext g g') : CkE K g0 g' σ Q QV := fun g2 s2 v y r ex tm q => k g2 s2 v y r (x.trans ex) tm q
theorem ve_one {op : BoolOp} (h : VE X W a ta) : VE X W (.BoolOp op [a] pos) ta := fun g0 g σ s R Q QV r cv k q => peu (pe_one pe_u) (h g0 g σ s R Q QV r cv k q)
theorem ve_and (ha : VE X W a ta) (hb : VE X W (.BoolOp .And (b :: rest) pos) tb) : VE X W (.BoolOp .And (a :: b :: rest) pos) (vAnd ta tb) := by
  intro g0 g σ s R Q QV r cv k q
  refine peu (pe_and pe_u pe_u) ?_
  refine ha g0 g σ s R _ _ r cv (fun g1 s1 v x r1 ex1 tm q1 => ?_) q
  unfold blD at q1
  dsimp only at q1
  split at q1
  · rename_i b0
    have tm : Rp X.K g1 (.bl b0) v := tm
    cases tm
    refine ⟨b0, rfl, ?_⟩
    cases b0 with
    | true => exact hb g0 g1 σ s1 R Q QV r1 (cv.ext ex1) (k.ext ex1) q1
    | false => exact k g1 s1 _ (.fz (.bl false)) r1 ex1 (Rp.bl _) q1
  · exact q1.elim
theorem ve_or (ha : VE X W a ta) (hb : VE X W (.BoolOp .Or (b :: rest) pos) tb) : VE X W (.BoolOp .Or (a :: b :: rest) pos) (vOr ta tb) := by
  intro g0 g σ s R Q QV r cv k q
  refine peu (pe_or pe_u pe_u) ?_
  refine ha g0 g σ s R _ _ r cv (fun g1 s1 v x r1 ex1 tm q1 => ?_) q
  unfold blD at q1
  dsimp only at q1
  split at q1
  · rename_i b0
    have tm : Rp X.K g1 (.bl b0) v := tm
    cases tm
    refine ⟨b0, rfl, ?_⟩
    cases b0 with
    | true => exact k g1 s1 _ (.fz (.bl true)) r1 ex1 (Rp.bl _) q1
    | false => exact hb g0 g1 σ s1 R Q QV r1 (cv.ext ex1) (k.ext ex1) q1
  · exact q1.elim
theorem ve_not (ha : VE X W a ta) : VE X W (.UnaryOp .Not a pos) (vNot ta) := by
  intro g0 g σ s R Q QV r cv k q
  refine peu (pe_not pe_u) ?_
  refine ha g0 g σ s R _ _ r cv (fun g1 s1 v x r1 ex1 tm q1 => ?_) q
  unfold blD at q1
  dsimp only at q1
  split at q1
  · rename_i b0
    have tm : Rp X.K g1 (.bl b0) v := tm
    cases tm
    exact ⟨b0, rfl, k g1 s1 _ (.fz (.bl _)) r1 ex1 (Rp.bl _) q1⟩
  · exact q1.elim
def vIf (tc : VTC) (ta tb : VT) : VT := fun R s Q => tc R s fun c s => br c (ta R s Q) (tb R s Q)
theorem ve_if {tc : VTC} (hc : VC X W c tc) (ha : VE X W a ta) (hb : VE X W b tb) : VE X W (.IfExp c a b pos) (vIf tc ta tb) := by
  intro g0 g σ s R Q QV r cv k q
  refine peu (pe_ifExp pt_u pe_u pe_u) ?_
  refine hc g0 g σ s R _ _ r cv (fun g1 s1 b0 r1 ex1 q1 => ?_) q
  cases b0 with
  | true => exact ha g0 g1 σ s1 R Q QV r1 (cv.ext ex1) (k.ext ex1) q1
  | false => exact hb g0 g1 σ s1 R Q QV r1 (cv.ext ex1) (k.ext ex1) q1
/-! ### tests -/
def cVal (ta : VT) : VTC := fun R s Q => ta R s fun x s => blD x fun b => Q b s
theorem bl_test {Q : Bool → S → Prop} {QV : Bool → Hp → Prop} (k : CkC X.K g0 g σ Q QV) : CkE X.K g0 g σ (fun x s => blD x fun b => Q b s) (fun x H' => ∃ b, x = .bl b ∧ QV b H') := fun g1 s1 v x r1 ex1 tm q1 => by
  unfold blD at q1
  dsimp only at q1
  split at q1
  · rename_i b0
    have tm : Rp X.K g1 (.bl b0) v := tm
    cases tm
    exact ⟨b0, rfl, k g1 s1 b0 r1 ex1 q1⟩
  · exact q1.elim
theorem vc_val (h : VE X W e t) (he : ∀ whole, isTrue e X.env whole = (do let v ← whole; standAt e.pos; holding [v] (truthy v)) := by intro _; rfl) : VC X W e (cVal t) :=
  fun g0 g σ s R Q QV r cv k q => ptu (pt_val pe_u he) (h g0 g σ s R _ _ r cv (bl_test k) q)
theorem vc_cmp {op : CmpOp} {F : Dv → Dv → (Sl → Prop) → Prop} (ho : OpV X (compareOp op) F) (ha : VE X W a ta) (hb : VE X W b tb) (hm : behindInMarks op b = false) : VC X W (.Compare a [op] [b] pos) (cVal (vBin F ta tb)) :=
  fun g0 g σ s R Q QV r cv k q => ptu (pt_cmpR or_u pe_u pe_u hm) (bin_core ho ha hb r cv (bl_test k) q)
theorem vc_in {tp : VTP} (hu : X.A.units + 1 < cLine) (ha : VE X W a ta) (hb : VP X W b tp) (hm : behindInMarks .In b = false) : VC X W (.Compare a [.In] [b] pos) (cVal (vIn false ta tp)) :=
  fun g0 g σ s R Q QV r cv k q => ptu (pt_cmpR or_u pe_u pe_u hm) (in_core false hu ha hb r cv (bl_test k) q)
theorem vc_notin {tp : VTP} (hu : X.A.units + 1 < cLine) (ha : VE X W a ta) (hb : VP X W b tp) (hm : behindInMarks .NotIn b = false) : VC X W (.Compare a [.NotIn] [b] pos) (cVal (vIn true ta tp)) :=
  fun g0 g σ s R Q QV r cv k q => ptu (pt_cmpR or_u pe_u pe_u hm) (in_core true hu ha hb r cv (bl_test k) q)
theorem vc_isN {j : Nat} {pos' : Pos} (ha : VE X W a ta) : VC X W (.Compare a [.Is] [.Constant .none j pos'] pos) (cVal (vIsN false ta)) :=
  fun g0 g σ s R Q QV r cv k q => ptu (pt_cmp (pc_isN pe_u) rfl) (isN_core false ha (j := 0) (pos' := pos) r cv (bl_test k) q)
theorem vc_notN {j : Nat} {pos' : Pos} (ha : VE X W a ta) : VC X W (.Compare a [.IsNot] [.Constant .none j pos'] pos) (cVal (vIsN true ta)) :=
  fun g0 g σ s R Q QV r cv k q => ptu (pt_cmp (pc_notN pe_u) rfl) (isN_core true ha (j := 0) (pos' := pos) r cv (bl_test k) q)
theorem vc_chain {op op' : CmpOp} {F F' : Dv → Dv → (Sl → Prop) → Prop} (ho : OpV X (compareOp op) F) (ho' : OpV X (compareOp op') F') (ha : VE X W a ta) (hb : VE X W b tb) (hc : VE X W c tc)
    (hm : lastMarks [op, op'] [b, c] = false := by rfl)
    (he : ∀ whole, isTrue (.Compare a [op, op'] [b, c] pos) X.env whole = (do let v ← whole; standAt (Expr.pos (.Compare a [op, op'] [b, c] pos)); holding [v] (truthy v)) := by intro _; rfl) : VC X W (.Compare a [op, op'] [b, c] pos) (cVal (vChain F F' ta tb tc)) :=
  vc_val (ve_chain ho ho' ha hb hc hm) he
def cAnd (ta tb : VTC) : VTC := fun R s Q => ta R s fun b s => br b (tb R s Q) (Q false s)
def cOr (ta tb : VTC) : VTC := fun R s Q => ta R s fun b s => br b (Q true s) (tb R s Q)
def cNot (ta : VTC) : VTC := fun R s Q => ta R s fun b s => Q (!b) s
theorem CkC.ext {Q : Bool → S → Prop} {QV : Bool → Hp → Prop} {K : PySem.W.Frag} (k : CkC K g0 g σ Q QV) (x : Ext g g') : CkC K g0 g' σ Q QV := fun g2 s2 b r ex q => k g2 s2 b r (x.trans ex) q
theorem vw_and1 {ta : VTC} (h : VC X W a ta) : VW X W (.BoolOp .And [a] pos) ta := fun g0 g σ s R Q QV r cv k q => pwu (pw_and1 pt_u) (h g0 g σ s R Q QV r cv k q)
theorem vw_or1 {ta : VTC} (h : VC X W a ta) : VW X W (.BoolOp .Or [a] pos) ta := fun g0 g σ s R Q QV r cv k q => pwu (pw_or1 pt_u) (h g0 g σ s R Q QV r cv k q)
theorem vw_and {ta tb : VTC} (ha : VC X W a ta) (hb : VW X W (.BoolOp .And (b :: rest) pos) tb) : VW X W (.BoolOp .And (a :: b :: rest) pos) (cAnd ta tb) := by
  intro g0 g σ s R Q QV r cv k q
  refine pwu (pw_and pt_u pw_u) (ha g0 g σ s R _ _ r cv (fun g1 s1 b0 r1 ex1 q1 => ?_) q)
  cases b0 with
  | true => exact hb g0 g1 σ s1 R Q QV r1 (cv.ext ex1) (k.ext ex1) q1
  | false => exact k g1 s1 false r1 ex1 q1
theorem vw_or {ta tb : VTC} (ha : VC X W a ta) (hb : VW X W (.BoolOp .Or (b :: rest) pos) tb) : VW X W (.BoolOp .Or (a :: b :: rest) pos) (cOr ta tb) := by
  intro g0 g σ s R Q QV r cv k q
  refine pwu (pw_or pt_u pw_u) (ha g0 g σ s R _ _ r cv (fun g1 s1 b0 r1 ex1 q1 => ?_) q)
  cases b0 with
  | true => exact k g1 s1 true r1 ex1 q1
  | false => exact hb g0 g1 σ s1 R Q QV r1 (cv.ext ex1) (k.ext ex1) q1
theorem vc_not {ta : VTC} (ha : VC X W a ta) : VC X W (.UnaryOp .Not a pos) (cNot ta) :=
  fun g0 g σ s R Q QV r cv k q => ptu (pt_not pt_u) (ha g0 g σ s R _ _ r cv (fun g1 s1 b0 r1 ex1 q1 => k g1 s1 (!b0) r1 ex1 q1) q)
/-- truth of any value -/
def truD (d : Dv) (k : Bool → Prop) : Prop := match d with
  | .non => k false
  | .bl b => k b
  | .int i => k (i != 0)
  | .str y => y.length ≤ sizeLine ∧ k ((y.length : Int) != 0)
  | .lst ds => k (!ds.isEmpty)
  | .tup ds => k (!ds.isEmpty)
  | _ => False
def cTru (tp : VTP) : VTC := fun R s Q => tp R s fun p s => look s p fun d => truD d fun b => Q b s
theorem tru_val {d : Dv} {v : V} {k : Bool → Prop} {K : PySem.W.Frag} (h : View K g v d) (q : truD d k) : ∃ b, TruV K v g.H b ∧ k b := by
  unfold truD at q
  split at q
  · have h : Rp K g .non v := h
    cases h; exact ⟨_, rfl, q⟩
  · rename_i b
    have h : Rp K g (.bl b) v := h
    cases h; exact ⟨_, rfl, q⟩
  · rename_i b
    have h : Rp K g (.int b) v := h
    cases h; exact ⟨_, rfl, q⟩
  · rename_i b
    have h : Rp K g (.str b) v := h
    cases h; exact ⟨_, ⟨q.1, rfl⟩, q.2⟩
  · obtain ⟨a, vs, rfl, hH, rs⟩ := h
    refine ⟨_, .inl ⟨vs, SqL.of hH, ?_⟩, q⟩
    cases rs <;> rfl
  · rename_i ds
    have h : Rp K g (.tup ds) v := h
    cases h with
    | tup hH rs =>
    refine ⟨_, .inr (.inl ⟨_, hH.sq, ?_⟩), q⟩
    cases rs <;> rfl
  · exact q.elim
theorem vc_tru {tp : VTP} (h : VP X W e tp) (he : ∀ whole, isTrue e X.env whole = (do let v ← whole; standAt e.pos; holding [v] (truthy v)) := by intro _; rfl) : VC X W e (cTru tp) := by
  intro g0 g σ s R Q QV r cv k q
  refine ptu (pt_truth pe_u he) (h g0 g σ s R _ _ r cv (fun g1 s1 v p r1 ex1 pl q1 => ?_) q)
  obtain ⟨d, vw, q2⟩ := look_view r1 pl q1
  obtain ⟨b, tv, q3⟩ := tru_val vw q2
  exact ⟨b, tv, k g1 s1 b r1 ex1 q3⟩
/-! ### arguments, displays -/
def aNil : VTA := fun _ s Q => Q [] s
def aCons (ta : VT) (tr : VTA) : VTA := fun R s Q => ta R s fun x s => tr R s fun ds s => Q (x.d :: ds) s
theorem va_nil : VA X W [] aNil := fun g0 g σ s R Q QV r cv k q => pau pa_nil (k g s [] [] r Ext.refl .nil q)
theorem va_cons {tr : VTA} (ha : VE X W a ta) (hr : VA X W es tr) (hs : starEach (a :: es) X.env = (false, eval a X.env) :: starEach es X.env := by rfl) : VA X W (a :: es) (aCons ta tr) := by
  intro g0 g σ s R Q QV r cv k q
  refine pau (pa_cons pe_u pa_u hs) ?_
  refine ha.fz (Q := fun x s => tr R s fun ds s => Q (x :: ds) s) r cv (fun g1 s1 v x r1 ex1 rp1 q1 => ?_) q
  refine hr g0 g1 σ s1 R _ _ r1 (cv.ext ex1) (fun g2 s2 vs ds r2 ex2 rs2 q2 => ?_) q1
  exact k g2 s2 (v :: vs) (x :: ds) r2 (ex1.trans ex2) (.cons (rp1.ext ex2) rs2) q2
def vLst (ta : VTA) : VT := fun R s Q => ta R s fun ds s => ds.length ≤ sizeLine ∧ Q (.ow (.lst ds)) s
def vTup (ta : VTA) : VT := fun R s Q => ta R s fun ds s => ds.length ≤ sizeLine ∧ Q (.fz (.tup ds)) s
theorem ve_lst {tr : VTA} (h : VA X W es tr) : VE X W (.List es pos) (vLst tr) := by
  intro g0 g σ s R Q QV r cv k q
  refine peu (pe_lst pa_u) (h g0 g σ s R _ _ r cv (fun g1 s1 vs ds r1 ex1 rs1 q1 => ?_) q)
  refine ⟨by rw [← rs1.len]; exact q1.1, fun p hp => ?_⟩
  obtain ⟨r2, e2, t2⟩ := new_ow r1 hp rs1
  exact k _ _ _ _ r2 (ex1.trans e2) t2 q1.2
theorem ve_tup {tr : VTA} {n : Nat} (h : VA X W es tr) : VE X W (.Tuple es n pos) (vTup tr) := by
  intro g0 g σ s R Q QV r cv k q
  refine peu (pe_tup pa_u) (h g0 g σ s R _ _ r cv (fun g1 s1 vs ds r1 ex1 rs1 q1 => ?_) q)
  refine ⟨by rw [← rs1.len]; exact q1.1, fun p hp => ?_⟩
  obtain ⟨r2, e2, t2⟩ := new_tup r1 hp rs1
  exact k _ _ _ _ r2 (ex1.trans e2) t2 q1.2
def vDic0 : VT := fun _ s Q => Q (.ow (.dic [])) s
theorem ve_dic0 : VE X W (.Dict [] [] pos) vDic0 := by
  intro g0 g σ s R Q QV r cv k q
  refine peu pe_dnewK (fun p hp => ?_)
  obtain ⟨r2, e2, t2⟩ := new_dic r hp .nil
  exact k _ _ _ _ r2 e2 t2 q
/-! ### subscripts -/
def ixDr (y i : Dv) (k : Dv → Prop) : Prop := match y, i with
  | .lst ds, .int i => match atI ds i with
    | some d => k d
    | none => False
  | .tup ds, .int i => match atI ds i with
    | some d => k d
    | none => False
  | .str z, .int i => z.length ≤ sizeLine ∧ match atI z.cps.toList i with
    | some c => k (.str ⟨#[c]⟩)
    | none => False
  | .dic ks, i => match i.key with
    | some q => match valD ks q with
      | some d => k d
      | none => False
    | none => False
  | _, _ => False
structure ixD (y i : Dv) (k : Dv → Prop) : Prop where
  h : ixDr y i k
def vIx (tp : VTP) (ti : VT) : VT := fun R s Q => tp R s fun p s => ti R s fun i s => look s p fun y => ixD y i.d fun d => Q (.fz d) s
theorem Rps.atI {K : PySem.W.Frag} {ds : List Dv} {vs : List V} {i : Int} {d : Dv} (r : Rps K g ds vs) (e : L2.atI ds i = some d) : ∃ v, L2.atI vs i = some v ∧ Rp K g d v := by
  unfold L2.atI at e ⊢
  rw [r.len] at e
  cases q : ixN vs.length i with
  | none => rw [q] at e; cases e
  | some j =>
    rw [q] at e
    exact r.get e
theorem ix_dict (hu : X.A.units + 1 < cLine) : IxR X (fun x y H Q => ∃ a v, x = .ref a ∧ DGet H a y (some v) ∧ Q v H) := by
  intro value slice pins s σ H x y v u Q I rx ry h hs
  obtain ⟨a, w, rfl, g, q⟩ := h
  cases rx
  exact tail_any (dict_typeIs I g) PySem.F.slot_dict_getitem.lookup (d_getItem hu I g ry fun w' s3 I3 rw' => ⟨w, H, I3, rw', q⟩) hs
theorem ix_val (hu : X.A.units + 1 < cLine) {y i : Dv} {v u : V} {k : Dv → Prop} {QV : VK} (ry : View X.K g v y) (ri : Rp X.K g i u) (h : ixD y i k) (q : ∀ d w, Rp X.K g d w → k d → QV w g.H) : uX X v u g.H QV := by
  replace h := ixD.h h; unfold ixDr at h
  split at h
  · obtain ⟨a, vs, rfl, hH, rs⟩ := ry
    cases ri
    split at h
    · rename_i d hd
      obtain ⟨w, e, rp⟩ := rs.atI hd
      exact ixu ix_list ⟨a, vs, _, w, rfl, rfl, SqL.of hH, e, q d w rp h⟩
    · exact h.elim
  · rename_i ds _
    have ry : Rp X.K g (.tup ds) v := ry
    cases ry with
    | tup hH rs =>
    cases ri
    split at h
    · rename_i d hd
      obtain ⟨w, e, rp⟩ := rs.atI hd
      exact ixu ix_tup ⟨_, _, _, w, rfl, rfl, hH.sq, e, q d w rp h⟩
    · exact h.elim
  · rename_i z _
    have ry : Rp X.K g (.str z) v := ry
    cases ry
    cases ri
    obtain ⟨hz, h⟩ := h
    split at h
    · rename_i c hc
      exact ixu ix_str ⟨_, _, c, rfl, rfl, hz, hc, q _ _ (.str _) h⟩
    · exact h.elim
  · obtain ⟨a, kvs, rfl, hH, rs⟩ := ry
    split at h
    · rename_i w hw
      split at h
      · rename_i d hd
        have ev := ri.key hw
        subst ev
        rcases rs.val w with ⟨_, e2⟩ | ⟨d', x, e1, e2, rp⟩
        · rw [hd] at e2
          cases e2
        · rw [hd] at e1
          cases e1
          refine ixu (ix_dict hu) ⟨a, x, rfl, ?_, q _ x rp h⟩
          rw [← e2]
          exact dget_rd hH
      · exact h.elim
    · exact h.elim
  · exact h.elim
theorem ve_ix {tp : VTP} {ti : VT} (hu : X.A.units + 1 < cLine) (hp : VP X W a tp) (hi : VE X W b ti) (hs : PlainIx b) : VE X W (.Subscript a b pos) (vIx tp ti) := by
  intro g0 g σ s R Q QV r cv k q
  refine peu (pe_ix ix_u pe_u pe_u hs) (hp g0 g σ s R _ _ r cv (fun g1 s1 v p r1 ex1 pl1 q1 => ?_) q)
  refine hi.fz (Q := fun i s => look s p fun y => ixD y i fun d => Q (.fz d) s) r1 (cv.ext ex1) (fun g2 s2 u i r2 ex2 rp2 q2 => ?_) q1
  obtain ⟨y, vw, q3⟩ := look_view r2 (pl1.ext ex2) q2
  exact ix_val hu vw rp2 q3 fun d w rp hq => k g2 s2 w (.fz d) r2 (ex1.trans ex2) rp hq
/-! ### slices -/
abbrev VTO := RK → S → (Option Int → S → Prop) → Prop
structure uO (X : Cx) (e : Option Expr) (σ : L2.St) (H : Hp) (Q : Option Int → Hp → Prop) : Prop where
  run : ∀ (pins : List (Addr × Obj)) (s : Shared), Inv X pins σ H s → wpAny (model X.prog X.w) X.A (evalPart e X.env) (fun u s' => ∃ o H', Inv X pins σ H' s' ∧ IsPart u o ∧ Q o H') X.xe s
theorem po_u {e : Option Expr} : PO X e (uO X e) := ⟨fun pins s σ H Q I h => h.run pins s I⟩
theorem pou {e : Option Expr} {t : TO} (h : PO X e t) {H : Hp} {Q : Option Int → Hp → Prop} (q : t σ H Q) : uO X e σ H Q := ⟨fun pins s I => h.run pins s σ H Q I q⟩
def CkI (K : PySem.W.Frag) (g0 g : Mo) (σ : L2.St) (Q : Option Int → S → Prop) (QV : Option Int → Hp → Prop) : Prop := ∀ g' s' o, Rel K g0 g' σ s' → Ext g g' → Q o s' → QV o g'.H
def VO (X : Cx) (W : WX) (e : Option Expr) (t : VTO) : Prop := ∀ g0 g σ s R Q QV, Rel X.K g0 g σ s → Cov X.K g0 g W R → CkI X.K g0 g σ Q QV → t R s Q → uO X e σ g.H QV
def oNone : VTO := fun _ s Q => Q none s
def oSome (t : VT) : VTO := fun R s Q => t R s fun x s => match x.d with
  | .int i => Q (some i) s
  | _ => False
theorem vo_none : VO X W none oNone := fun g0 g σ s R Q QV r cv k q => pou po_none (k g s none r Ext.refl q)
theorem vo_some (h : VE X W e t) : VO X W (some e) (oSome t) := by
  intro g0 g σ s R Q QV r cv k q
  refine pou (po_some pe_u) (h.fz (Q := fun x s => match x with | .int i => Q (some i) s | _ => False) r cv (fun g1 s1 v x r1 ex1 rp1 q1 => ?_) q)
  dsimp only at q1
  split at q1
  · cases rp1
    exact ⟨_, rfl, k g1 s1 _ r1 ex1 q1⟩
  · exact q1.elim
def cutD (xs : List Dv) (lo hi : Option Int) : List Dv := (xs.drop (HT.sIx xs.length 0 lo)).take (HT.sIx xs.length xs.length hi - HT.sIx xs.length 0 lo)
def slDr (y : Dv) (lo hi : Option Int) (k : Sl → Prop) : Prop := match y with
  | .lst ds => k (.ow (.lst (cutD ds lo hi)))
  | .tup ds => ¬ (HT.sIx ds.length 0 lo = 0 ∧ HT.sIx ds.length ds.length hi = ds.length) ∧ k (.fz (.tup (cutD ds lo hi)))
  | .str z => z.length ≤ sizeLine ∧ k (.fz (.str (cutS z lo hi)))
  | _ => False
structure slD (y : Dv) (lo hi : Option Int) (k : Sl → Prop) : Prop where
  h : slDr y lo hi k
theorem Rps.cut {K : PySem.W.Frag} {ds : List Dv} {vs : List V} (r : Rps K g ds vs) (lo hi : Option Int) : Rps K g (cutD ds lo hi) (cutV vs lo hi) := by
  unfold cutD cutV
  rw [r.len]
  exact (r.drop _).take _
def uL (X : Cx) : V → Option Int → Option Int → Hp → VK → Prop := fun x lo hi H Q => ∀ (pins : List (Addr × Obj)) (s : Shared) (σ : L2.St) (v vl vu : Value) (sl : Addr), Inv X pins σ H s → RelV x v → s.heap.IsSliceOf sl vl vu .none → IsPart vl lo → IsPart vu hi →
    ∃ T id, typeLookup (.type T) "__getitem__" = pure (some (.builtin id)) ∧ s.TypeIs v T ∧ wpAny (model X.prog X.w) X.A (getItem v (.ref sl)) (EP X pins σ Q) X.xe s
theorem sl_u : SlR X (uL X) := fun pins s σ H x v vl vu lo hi sl Q I rx hs pl pu h => h pins s σ v vl vu sl I rx hs pl pu
theorem slu {r : V → Option Int → Option Int → Hp → VK → Prop} (h : SlR X r) {x : V} {lo hi : Option Int} {H : Hp} {Q : VK} (q : r x lo hi H Q) : uL X x lo hi H Q := fun pins s σ v vl vu sl I rx hs pl pu => h pins s σ H x v vl vu lo hi sl Q I rx hs pl pu q
def vSl (tp : VTP) (tl th : VTO) : VT := fun R s Q => tp R s fun p s => tl R s fun lo s => th R s fun hi s => look s p fun y => slD y lo hi fun x => Q x s
theorem ve_slice {lo hi : Option Expr} {p2 : Pos} {tp : VTP} {tl th : VTO} (hp : VP X W a tp) (hl : VO X W lo tl) (hh : VO X W hi th) : VE X W (.Subscript a (.Slice lo hi none p2) pos) (vSl tp tl th) := by
  intro g0 g σ s R Q QV r cv k q
  refine peu (pe_slice sl_u pe_u po_u po_u) (hp g0 g σ s R _ _ r cv (fun g1 s1 v p r1 ex1 pl1 q1 => ?_) q)
  refine hl g0 g1 σ s1 R _ _ r1 (cv.ext ex1) (fun g2 s2 lo r2 ex2 q2 => ?_) q1
  refine hh g0 g2 σ s2 R _ _ r2 (cv.ext (ex1.trans ex2)) (fun g3 s3 hi r3 ex3 q3 => ?_) q2
  obtain ⟨y, vw, q4⟩ := look_view r3 ((pl1.ext ex2).ext ex3) q3
  have ex := (ex1.trans ex2).trans ex3
  replace q4 := slD.h q4; unfold slDr at q4
  split at q4
  · obtain ⟨a, vs, rfl, hH, rs⟩ := vw
    refine slu sl_list ⟨a, vs, rfl, SqL.of hH, fun p hp => ?_⟩
    obtain ⟨r4, e4, t4⟩ := new_ow r3 hp (rs.cut lo hi)
    exact k _ _ _ _ r4 (ex.trans e4) t4 q4
  · rename_i ds
    have vw : Rp X.K g3 (.tup ds) v := vw
    cases vw with
    | tup hH rs =>
    refine slu sl_tup ⟨_, _, rfl, hH.sq, by rw [← rs.len]; exact q4.1, fun p hp => ?_⟩
    obtain ⟨r4, e4, t4⟩ := new_tup r3 hp (rs.cut lo hi)
    exact k _ _ _ _ r4 (ex.trans e4) t4 q4.2
  · rename_i z
    have vw : Rp X.K g3 (.str z) v := vw
    cases vw
    exact slu sl_str ⟨z, rfl, q4.1, k g3 s3 _ (.fz (.str _)) r3 ex (Rp.str _) q4.2⟩
  · exact q4.elim
end
end VL

/-! V4: built-in functions and methods. -/
namespace VL
open PySem PySem.Spec PyProof.Rows L2
section
variable {X : Cx} {W : WX} {e a b c o : Expr} {es rest : List Expr} {ta tb tc t : VT} {tp : VTP} {tr : VTA} {g0 g g' : Mo} {σ : L2.St} {s : S} {R : RK} {pos : Pos} {x : Str} {p cpos apos : Pos}
/-! ### functions of one argument that is only read -/
def BfV (X : Cx) (f : Value) (F : Dv → (Sl → Prop) → Prop) : Prop := ∀ g0 g σ s d v Q QV, Rel X.K g0 g σ s → View X.K g v d → CkO X.K g0 g σ s Q QV → F d Q → uF X f [v] g.H QV
def vB1 (F : Dv → (Sl → Prop) → Prop) (tp : VTP) : VT := fun R s Q => tp R s fun p s => look s p fun d => F d fun x => Q x s
theorem b1_core {f : Value} {F : Dv → (Sl → Prop) → Prop} (hf : BfV X f F) (hp : VP X W e tp) {Q : Sl → S → Prop} {QV : VK} (r : Rel X.K g0 g σ s) (cv : Cov X.K g0 g W R) (k : CkE X.K g0 g σ Q QV) (q : vB1 F tp R s Q) :
    tCB (uF X f) (tCons (uE X e) tNil) σ g.H QV :=
  hp g0 g σ s R _ _ r cv (fun g1 s1 v p r1 ex1 pl1 q1 => by
    obtain ⟨d, vw, q2⟩ := look_view r1 pl1 q1
    exact hf g0 g1 σ s1 d v _ _ r1 vw (fun g2 w z r2 ex2 tm q3 => k g2 s1 w z r2 (ex1.trans ex2) tm q3) q2) q
theorem ve_bf {id : String} {F : Dv → (Sl → Prop) → Prop} (hf : BfV X (.builtin id) F) (hp : VP X W e tp) (hg : Gl X x) (hm : X.mg x = none) (hv : bootBuiltins x = some (.builtin id)) (hn : x ≠ "__name__" := by decide) (hdb : (x == ("__debug__" : Str)) = false := by decide)
    (he : starEach [e] X.env = (false, eval e X.env) :: starEach [] X.env := by rfl) (hpl : (backTo pos (starEach [] X.env)).any (·.1) = false := by rfl) : VE X W (.Call (.Name x p) [e] [] pos) (vB1 F tp) :=
  fun g0 g σ s R Q QV r cv k q => peu (pe_callB cr_u hg hm hv (pa_cons pe_u pa_nil he) hn hdb he hpl) (b1_core hf hp r cv k q)
theorem ve_bt {T : String} {F : Dv → (Sl → Prop) → Prop} (hf : BfV X (.type T) F) (hp : VP X W e tp) (hg : Gl X x) (hm : X.mg x = none) (hv : bootBuiltins x = some (.type T)) (hn : x ≠ "__name__" := by decide) (hdb : (x == ("__debug__" : Str)) = false := by decide)
    (he : starEach [e] X.env = (false, eval e X.env) :: starEach [] X.env := by rfl) (hpl : (backTo pos (starEach [] X.env)).any (·.1) = false := by rfl) : VE X W (.Call (.Name x p) [e] [] pos) (vB1 F tp) :=
  fun g0 g σ s R Q QV r cv k q => peu (pe_callTy cr_u hg hm hv (pa_cons pe_u pa_nil he) hn hdb he hpl) (b1_core hf hp r cv k q)
/-! ### functions of several arguments -/
def BnV (X : Cx) (f : Value) (F : List Dv → (Sl → Prop) → Prop) : Prop := ∀ g0 g σ s ds vs Q QV, Rel X.K g0 g σ s → Rps X.K g ds vs → CkO X.K g0 g σ s Q QV → F ds Q → uF X f vs g.H QV
def vBn (F : List Dv → (Sl → Prop) → Prop) (ta : VTA) : VT := fun R s Q => ta R s fun ds s => F ds fun x => Q x s
theorem bn_core {f : Value} {F : List Dv → (Sl → Prop) → Prop} (hf : BnV X f F) (ha : VA X W es tr) {Q : Sl → S → Prop} {QV : VK} (r : Rel X.K g0 g σ s) (cv : Cov X.K g0 g W R) (k : CkE X.K g0 g σ Q QV) (q : vBn F tr R s Q) :
    tCB (uF X f) (uA X es) σ g.H QV :=
  ha g0 g σ s R _ _ r cv (fun g1 s1 vs ds r1 ex1 rs1 q1 => hf g0 g1 σ s1 ds vs _ _ r1 rs1 (fun g2 w z r2 ex2 tm q3 => k g2 s1 w z r2 (ex1.trans ex2) tm q3) q1) q
theorem ve_bn {id : String} {F : List Dv → (Sl → Prop) → Prop} (hf : BnV X (.builtin id) F) (ha : VA X W (e :: es) tr) (hg : Gl X x) (hm : X.mg x = none) (hv : bootBuiltins x = some (.builtin id)) (hn : x ≠ "__name__" := by decide) (hdb : (x == ("__debug__" : Str)) = false := by decide)
    (he : starEach (e :: es) X.env = (false, eval e X.env) :: starEach es X.env := by rfl) (hpl : (backTo pos (starEach es X.env)).any (·.1) = false := by rfl) : VE X W (.Call (.Name x p) (e :: es) [] pos) (vBn F tr) :=
  fun g0 g σ s R Q QV r cv k q => peu (pe_callB cr_u hg hm hv pa_u hn hdb he hpl) (bn_core hf ha r cv k q)
/-- a built-in function that the module has under a name (math.gcd) -/
theorem ve_bm {id : String} {F : List Dv → (Sl → Prop) → Prop} (hf : BnV X (.builtin id) F) (ha : VA X W (e :: es) tr) (hg : Gl X x) (hm : X.mg x = some (.builtin id)) (hdb : (x == ("__debug__" : Str)) = false := by decide)
    (he : starEach (e :: es) X.env = (false, eval e X.env) :: starEach es X.env := by rfl) (hpl : (backTo pos (starEach es X.env)).any (·.1) = false := by rfl) : VE X W (.Call (.Name x p) (e :: es) [] pos) (vBn F tr) :=
  fun g0 g σ s R Q QV r cv k q => peu (pe_callBfun cr_u hg hm pa_u hdb he hpl) (bn_core hf ha r cv k q)
/-! ### the functions -/
def lenD (d : Dv) (k : Sl → Prop) : Prop := match d with
  | .str z => z.length ≤ sizeLine ∧ k (.fz (.int z.length))
  | .lst ds => k (.fz (.int ds.length))
  | .tup ds => k (.fz (.int ds.length))
  | .dic ks => k (.fz (.int ks.length))
  | _ => False
theorem Rpk.len {K : PySem.W.Frag} : ∀ {ks : List (Key × Dv)} {kvs : List (Key × V)}, Rpk K g ks kvs → ks.length = kvs.length
  | _, _, .nil => rfl
  | _, _, .cons _ r => congrArg (· + 1) (Rpk.len r)
theorem call_lenR : CallR X (.builtin "len") (fun xs H Q => ∃ a kvs, xs = [V.ref a] ∧ Rd H a (.dK kvs) ∧ Q (.int kvs.length) H) := by
  intro pins s σ H xs us Q I r h
  obtain ⟨a, kvs, rfl, ha, q⟩ := h
  cases r with
  | cons ru rn =>
  cases rn; cases ru
  exact d_len I ha fun t s' I' => ⟨.int kvs.length, H, I', ⟨t, rfl⟩, q⟩
theorem bf_len : BfV X (.builtin "len") lenD := by
  intro g0 g σ s d v Q QV r vw k h
  unfold lenD at h
  split at h
  · rename_i z
    have vw : Rp X.K g (.str z) v := vw
    cases vw
    exact cru call_len ⟨_, _, rfl, ⟨h.1, rfl⟩, k.fz r (Rp.int _) h.2⟩
  · obtain ⟨a, vs, rfl, hH, rs⟩ := vw
    refine cru call_len_seq ⟨_, _, rfl, .inl (SqL.of hH), ?_⟩
    rw [← rs.len]
    exact k.fz r (Rp.int _) h
  · rename_i ds
    have vw : Rp X.K g (.tup ds) v := vw
    cases vw with
    | tup hH rs =>
    refine cru call_len_seq ⟨_, _, rfl, .inr hH.sq, ?_⟩
    rw [← rs.len]
    exact k.fz r (Rp.int _) h
  · obtain ⟨a, vs, rfl, hH, rs⟩ := vw
    refine cru call_lenR ⟨_, _, rfl, hH, ?_⟩
    rw [← rs.len]
    exact k.fz r (Rp.int _) h
  · exact h.elim
def intD (d : Dv) (k : Sl → Prop) : Prop := match d with
  | .int i => k (.fz (.int i))
  | .bl b => k (.fz (.int (if b then 1 else 0)))
  | .str a => a.length ≤ 640 ∧ ∃ n, PySem.intText? a = some n ∧ k (.fz (.int n))
  | _ => False
theorem bf_int : BfV X (.type "int") intD := by
  intro g0 g σ s d v Q QV r vw k h
  unfold intD at h
  split at h
  · rename_i i
    have vw : Rp X.K g (.int i) v := vw
    cases vw
    exact cru call_int1 (.inl ⟨_, rfl, k.fz r (Rp.int _) h⟩)
  · rename_i i
    have vw : Rp X.K g (.bl i) v := vw
    cases vw
    exact cru call_int1 (.inr ⟨_, rfl, k.fz r (Rp.int _) h⟩)
  · rename_i i
    have vw : Rp X.K g (.str i) v := vw
    cases vw
    obtain ⟨h1, n, h2, h3⟩ := h
    exact cru call_int_str ⟨_, n, rfl, h2, h1, k.fz r (Rp.int _) h3⟩
  · exact h.elim
def strDr (d : Dv) (k : Sl → Prop) : Prop := match d with
  | .int i => i.natAbs.log2 < 1920 ∧ k (.fz (.str (toString i)))
  | .str a => k (.fz (.str a))
  | _ => False
structure strD (d : Dv) (k : Sl → Prop) : Prop where
  h : strDr d k
theorem bf_str : BfV X (.type "str") strD := by
  intro g0 g σ s d v Q QV r vw k h
  replace h := strD.h h; unfold strDr at h
  split at h
  · rename_i i
    have vw : Rp X.K g (.int i) v := vw
    cases vw
    exact cru call_str_int ⟨_, rfl, h.1, k.fz r (Rp.str _) h.2⟩
  · rename_i i
    have vw : Rp X.K g (.str i) v := vw
    cases vw
    exact cru SkE.call_str_str ⟨_, rfl, k.fz r (Rp.str _) h⟩
  · exact h.elim
def absD (d : Dv) (k : Sl → Prop) : Prop := match d with
  | .int i => k (.fz (.int (if i < 0 then -i else i)))
  | _ => False
theorem bf_abs : BfV X (.builtin "abs") absD := by
  intro g0 g σ s d v Q QV r vw k h
  unfold absD at h
  split at h
  · rename_i i
    have vw : Rp X.K g (.int i) v := vw
    cases vw
    exact cru call_abs ⟨_, rfl, k.fz r (Rp.int _) h⟩
  · exact h.elim
def kD : Key → Dv
  | .inl i => .int i
  | .inr x => .str x
theorem kD_rp {K : PySem.W.Frag} (q : Key) : Rp K g (kD q) (kV q) := by
  cases q with
  | inl i => exact .int i
  | inr x => exact .str x
theorem Rpk.keys {K : PySem.W.Frag} : ∀ {ks : List (Key × Dv)} {kvs : List (Key × V)}, Rpk K g ks kvs → Rps K g (ks.map fun q => kD q.1) (kvs.map fun kv => kV kv.1)
  | _, _, .nil => .nil
  | _, _, .cons _ r => .cons (kD_rp _) (Rpk.keys r)
def listD (d : Dv) (k : Sl → Prop) : Prop := match d with
  | .lst ds => k (.ow (.lst ds))
  | .tup ds => k (.ow (.lst ds))
  | .scr ns => k (.ow (.lst (ns.map Dv.int)))
  | _ => False
theorem bf_list (hc : X.calm = true) : BfV X (.type "list") listD := by
  intro g0 g σ s d v Q QV r vw k h
  unfold listD at h
  split at h
  · obtain ⟨a, vs, rfl, hH, rs⟩ := vw
    refine cru call_list_of' ⟨_, _, rfl, .inl (SqL.of hH), fun p hp => ?_⟩
    obtain ⟨r4, e4, t4⟩ := new_ow r hp rs
    exact k _ _ _ r4 e4 t4 h
  · rename_i ds
    have vw : Rp X.K g (.tup ds) v := vw
    cases vw with
    | tup hH rs =>
    refine cru call_list_of' ⟨_, _, rfl, .inr hH.sq, fun p hp => ?_⟩
    obtain ⟨r4, e4, t4⟩ := new_ow r hp rs
    exact k _ _ _ r4 e4 t4 h
  · rename_i ns
    have vw : Rp X.K g (.scr ns) v := vw
    cases vw with
    | scr hH =>
    have hq : SqL X.K g.H _ (ns.map V.int) := hH.elim (fun ⟨_, h⟩ => .inl (.inr ⟨_, h.2⟩)) fun h => sql_none h
    refine cru call_list_of' ⟨_, _, rfl, .inl hq, fun p hp => ?_⟩
    obtain ⟨r4, e4, t4⟩ := new_ow r hp (Rps.ints ns)
    exact k _ _ _ r4 e4 t4 h
  · exact h.elim
def tupD (d : Dv) (k : Sl → Prop) : Prop := match d with
  | .lst ds => k (.fz (.tup ds))
  | _ => False
theorem bf_tuple : BfV X (.type "tuple") tupD := by
  intro g0 g σ s d v Q QV r vw k h
  unfold tupD at h
  split at h
  · obtain ⟨a, vs, rfl, hH, rs⟩ := vw
    refine cru call_tuple_of' ⟨_, _, rfl, SqL.of hH, fun p hp => ?_⟩
    obtain ⟨r4, e4, t4⟩ := new_tup r hp rs
    exact k _ _ _ r4 e4 t4 h
  · exact h.elim
def bls : List Dv → Option (List Bool)
  | [] => some []
  | .bl b :: r => (bls r).map (b :: ·)
  | _ :: _ => none
def intsOf : List Dv → Option (List Int)
  | [] => some []
  | .int b :: r => (intsOf r).map (b :: ·)
  | _ :: _ => none
def strsOf : List Dv → Option (List Str)
  | [] => some []
  | .str b :: r => (strsOf r).map (b :: ·)
  | _ :: _ => none
theorem bls_map (f : α → Bool) : ∀ xs : List α, bls (xs.map fun x => Dv.bl (f x)) = some (xs.map f)
  | [] => rfl
  | x :: r => by
    have ih := bls_map f r
    simp only [List.map_cons, bls, ih, Option.map_some]
theorem bls_id : ∀ xs : List Bool, bls (xs.map Dv.bl) = some xs := fun xs => by
  have := bls_map (fun b : Bool => b) xs
  simpa using this
theorem intsOf_id : ∀ xs : List Int, intsOf (xs.map Dv.int) = some xs
  | [] => rfl
  | x :: r => by
    have ih := intsOf_id r
    simp only [List.map_cons, intsOf, ih, Option.map_some]
theorem strsOf_id : ∀ xs : List Str, strsOf (xs.map Dv.str) = some xs
  | [] => rfl
  | x :: r => by
    have ih := strsOf_id r
    simp only [List.map_cons, strsOf, ih, Option.map_some]
theorem bls_eq : ∀ {ds : List Dv} {bs : List Bool}, bls ds = some bs → ds = bs.map Dv.bl
  | [], _, e => by simp [bls] at e; subst e; rfl
  | .bl b :: r, _, e => by
    unfold bls at e
    cases q : bls r with
    | none => rw [q] at e; cases e
    | some z => rw [q] at e; cases e; rw [bls_eq q]; rfl
  | .non :: _, _, e => nomatch e
  | .int _ :: _, _, e => nomatch e
  | .str _ :: _, _, e => nomatch e
  | .ty _ :: _, _, e => nomatch e
  | .raw _ :: _, _, e => nomatch e
  | .lst _ :: _, _, e => nomatch e
  | .tup _ :: _, _, e => nomatch e
  | .dic _ :: _, _, e => nomatch e
  | .obj _ :: _, _, e => nomatch e
  | .xob _ _ _ _ :: _, _, e => nomatch e
  | .scr _ :: _, _, e => nomatch e
theorem intsOf_eq : ∀ {ds : List Dv} {bs : List Int}, intsOf ds = some bs → ds = bs.map Dv.int
  | [], _, e => by simp [intsOf] at e; subst e; rfl
  | .int b :: r, _, e => by
    unfold intsOf at e
    cases q : intsOf r with
    | none => rw [q] at e; cases e
    | some z => rw [q] at e; cases e; rw [intsOf_eq q]; rfl
  | .non :: _, _, e => nomatch e
  | .bl _ :: _, _, e => nomatch e
  | .str _ :: _, _, e => nomatch e
  | .ty _ :: _, _, e => nomatch e
  | .raw _ :: _, _, e => nomatch e
  | .lst _ :: _, _, e => nomatch e
  | .tup _ :: _, _, e => nomatch e
  | .dic _ :: _, _, e => nomatch e
  | .obj _ :: _, _, e => nomatch e
  | .xob _ _ _ _ :: _, _, e => nomatch e
  | .scr _ :: _, _, e => nomatch e
theorem strsOf_eq : ∀ {ds : List Dv} {bs : List Str}, strsOf ds = some bs → ds = bs.map Dv.str
  | [], _, e => by simp [strsOf] at e; subst e; rfl
  | .str b :: r, _, e => by
    unfold strsOf at e
    cases q : strsOf r with
    | none => rw [q] at e; cases e
    | some z => rw [q] at e; cases e; rw [strsOf_eq q]; rfl
  | .non :: _, _, e => nomatch e
  | .bl _ :: _, _, e => nomatch e
  | .int _ :: _, _, e => nomatch e
  | .ty _ :: _, _, e => nomatch e
  | .raw _ :: _, _, e => nomatch e
  | .lst _ :: _, _, e => nomatch e
  | .tup _ :: _, _, e => nomatch e
  | .dic _ :: _, _, e => nomatch e
  | .obj _ :: _, _, e => nomatch e
  | .xob _ _ _ _ :: _, _, e => nomatch e
  | .scr _ :: _, _, e => nomatch e
def allDr (f : List Bool → Bool) (d : Dv) (k : Sl → Prop) : Prop := match d with
  | .lst ds => match bls ds with
    | some bs => k (.fz (.bl (f bs)))
    | none => False
  | _ => False
structure allD (f : List Bool → Bool) (d : Dv) (k : Sl → Prop) : Prop where
  h : allDr f d k
theorem bf_all (hc : X.calm = true) : BfV X (.builtin "all") (allD fun bs => bs.all id) := by
  intro g0 g σ s d v Q QV r vw k h
  replace h := allD.h h; unfold allDr at h
  split at h
  · obtain ⟨a, vs, rfl, hH, rs⟩ := vw
    split at h
    · rename_i bs hb
      have e := bls_eq hb
      subst e
      have e2 := rs.bls_eq
      subst e2
      exact cru (cr_all hc) ⟨_, bs, rfl, SqL.of hH, k.fz r (Rp.bl _) h⟩
    · exact h.elim
  · exact h.elim
theorem bf_any (hc : X.calm = true) : BfV X (.builtin "any") (allD fun bs => bs.any id) := by
  intro g0 g σ s d v Q QV r vw k h
  replace h := allD.h h; unfold allDr at h
  split at h
  · obtain ⟨a, vs, rfl, hH, rs⟩ := vw
    split at h
    · rename_i bs hb
      have e := bls_eq hb
      subst e
      have e2 := rs.bls_eq
      subst e2
      exact cru (cr_any hc) ⟨_, bs, rfl, SqL.of hH, k.fz r (Rp.bl _) h⟩
    · exact h.elim
  · exact h.elim
def sumD (d : Dv) (k : Sl → Prop) : Prop := match d with
  | .lst ds => match intsOf ds with
    | some ns => k (.fz (.int ns.sum))
    | none => False
  | _ => False
theorem bf_sum (hc : X.calm = true) : BfV X (.builtin "sum") sumD := by
  intro g0 g σ s d v Q QV r vw k h
  unfold sumD at h
  split at h
  · obtain ⟨a, vs, rfl, hH, rs⟩ := vw
    split at h
    · rename_i bs hb
      have e := intsOf_eq hb
      subst e
      have e2 := rs.ints_eq
      subst e2
      exact cru (cr_sum hc) ⟨_, bs, rfl, SqL.of hH, k.fz r (Rp.int _) h⟩
    · exact h.elim
  · exact h.elim
/-- the greatest, the least -/
def extD (le : Int → Int → Prop) (d : Dv) (k : Sl → Prop) : Prop := match d with
  | .lst ds => match intsOf ds with
    | some ns => 0 < ns.length ∧ ∀ m, m ∈ ns → (∀ y, y ∈ ns → le y m) → k (.fz (.int m))
    | none => False
  | _ => False
theorem bf_max (hc : X.calm = true) : BfV X (.builtin "max") (extD fun y m => y ≤ m) := by
  intro g0 g σ s d v Q QV r vw k h
  unfold extD at h
  split at h
  · obtain ⟨a, vs, rfl, hH, rs⟩ := vw
    split at h
    · rename_i bs hb
      have e := intsOf_eq hb
      subst e
      have e2 := rs.ints_eq
      subst e2
      exact cru (cr_max hc) ⟨_, bs, rfl, SqL.of hH, h.1, fun m h1 h2 => k.fz r (Rp.int _) (h.2 m h1 h2)⟩
    · exact h.elim
  · exact h.elim
theorem bf_min (hc : X.calm = true) : BfV X (.builtin "min") (extD fun y m => m ≤ y) := by
  intro g0 g σ s d v Q QV r vw k h
  unfold extD at h
  split at h
  · obtain ⟨a, vs, rfl, hH, rs⟩ := vw
    split at h
    · rename_i bs hb
      have e := intsOf_eq hb
      subst e
      have e2 := rs.ints_eq
      subst e2
      exact cru (cr_min hc) ⟨_, bs, rfl, SqL.of hH, h.1, fun m h1 h2 => k.fz r (Rp.int _) (h.2 m h1 h2)⟩
    · exact h.elim
  · exact h.elim
/-- sorted texts, fewer than 64 -/
def sortSDr (d : Dv) (k : Sl → Prop) : Prop := match d with
  | .lst ds => match strsOf ds with
    | some xs => xs.length < 64 ∧ ∀ ys : List Str, ys.Perm xs → sortedS ys = true → k (.ow (.lst (ys.map Dv.str)))
    | none => False
  | _ => False
structure sortSD (d : Dv) (k : Sl → Prop) : Prop where
  h : sortSDr d k
theorem bf_sortS : BfV X (.builtin "sorted") sortSD := by
  intro g0 g σ s d v Q QV r vw k h
  replace h := sortSD.h h; unfold sortSDr at h
  split at h
  · obtain ⟨a, vs, rfl, hH, rs⟩ := vw
    split at h
    · rename_i bs hb
      have e := strsOf_eq hb
      subst e
      have e2 := rs.strs_eq
      subst e2
      refine cru cr_sortedS ⟨_, bs, rfl, SqL.of hH, h.1, fun ys p h1 h2 hp => ?_⟩
      obtain ⟨r4, e4, t4⟩ := new_ow r hp (Rps.strs ys)
      exact k _ _ _ r4 e4 t4 (h.2 ys h1 h2)
    · exact h.elim
  · exact h.elim
def ordCD (d : Dv) (k : Sl → Prop) : Prop := match d with
  | .str x => x.length = 1 ∧ k (.fz (.int (x.cps.getD 0 0 : Nat)))
  | _ => False
theorem bf_ord : BfV X (.builtin "ord") ordCD := by
  intro g0 g σ s d v Q QV r vw k h
  unfold ordCD at h
  split at h
  · rename_i i
    have vw : Rp X.K g (.str i) v := vw
    cases vw
    exact cru call_ord ⟨_, rfl, h.1, k.fz r (Rp.int _) h.2⟩
  · exact h.elim
/-! ### of two arguments -/
def max2D (ds : List Dv) (k : Sl → Prop) : Prop := match ds with
  | [.int i, .int j] => k (.fz (.int (if j > i then j else i)))
  | _ => False
def min2D (ds : List Dv) (k : Sl → Prop) : Prop := match ds with
  | [.int i, .int j] => k (.fz (.int (if j < i then j else i)))
  | _ => False
theorem bn_max2 (hc : X.calm = true) : BnV X (.builtin "max") max2D := by
  intro g0 g σ s ds vs Q QV r rs k h
  unfold max2D at h
  split at h
  · cases rs with
    | cons h1 rs =>
    cases rs with
    | cons h2 rs =>
    cases rs; cases h1; cases h2
    exact cru (call_max2 hc) ⟨_, _, rfl, k.fz r (Rp.int _) h⟩
  · exact h.elim
theorem bn_min2 (hc : X.calm = true) : BnV X (.builtin "min") min2D := by
  intro g0 g σ s ds vs Q QV r rs k h
  unfold min2D at h
  split at h
  · cases rs with
    | cons h1 rs =>
    cases rs with
    | cons h2 rs =>
    cases rs; cases h1; cases h2
    exact cru (call_min2 hc) ⟨_, _, rfl, k.fz r (Rp.int _) h⟩
  · exact h.elim
def gcdD (ds : List Dv) (k : Sl → Prop) : Prop := match ds with
  | [.int i, .int j] => k (.fz (.int ((Nat.gcd i.natAbs j.natAbs : Nat) : Int)))
  | _ => False
theorem bn_gcd : BnV X (.builtin "math.gcd") gcdD := by
  intro g0 g σ s ds vs Q QV r rs k h
  unfold gcdD at h
  split at h
  · cases rs with
    | cons h1 rs =>
    cases rs with
    | cons h2 rs =>
    cases rs; cases h1; cases h2
    exact cru cr_gcd ⟨_, _, rfl, k.fz r (Rp.int _) h⟩
  · exact h.elim
def Dv.tn : Dv → Option String
  | .non => some "NoneType"
  | .bl _ => some "bool"
  | .int _ => some "int"
  | .str _ => some "str"
  | .lst _ => some "list"
  | .tup _ => some "tuple"
  | .dic _ => some "dict"
  | _ => none
theorem SqT.tyx {K : PySem.W.Frag} {H : Hp} {a : Addr} {xs : List V} (h : SqT K H a xs) : TyX K H (.ref a) (.type "tuple") := by
  rcases h with (h | ⟨o, h⟩) | ⟨o, _, _, h1, h2, _⟩
  · exact .base (.tup h)
  · exact .fTuple h
  · exact .kTuple h1 h2
theorem Rp.tyx {K : PySem.W.Frag} {d : Dv} {v : V} {n : String} (h : Rp K g d v) (e : d.tn = some n) : TyX K g.H v (.type n) := by
  cases h <;> first | (cases e; done) | skip
  · cases e; exact .base .non
  · cases e; exact .base (.bl _)
  · cases e; exact .base (.int _)
  · cases e; exact .base (.str _)
  · rename_i h r
    cases e; exact .base (.lst h.2)
  · rename_i h r
    cases e; exact SqT.tyx h.sq
  · rename_i h r
    cases e
    rcases h.2 with h | ⟨o, h⟩
    · exact .base (.dK h)
    · exact .fDict h
def isiB (n T : String) : Option Bool := match n, T with
  | "NoneType", "str" => some false | "NoneType", "int" => some false | "NoneType", "bool" => some false | "NoneType", "list" => some false | "NoneType", "tuple" => some false | "NoneType", "dict" => some false
  | "bool", "str" => some false | "bool", "int" => some true | "bool", "bool" => some true | "bool", "list" => some false | "bool", "tuple" => some false | "bool", "dict" => some false
  | "int", "str" => some false | "int", "int" => some true | "int", "bool" => some false | "int", "list" => some false | "int", "tuple" => some false | "int", "dict" => some false
  | "str", "str" => some true | "str", "int" => some false | "str", "bool" => some false | "str", "list" => some false | "str", "tuple" => some false | "str", "dict" => some false
  | "list", "str" => some false | "list", "int" => some false | "list", "bool" => some false | "list", "list" => some true | "list", "tuple" => some false | "list", "dict" => some false
  | "tuple", "str" => some false | "tuple", "int" => some false | "tuple", "bool" => some false | "tuple", "list" => some false | "tuple", "tuple" => some true | "tuple", "dict" => some false
  | "dict", "str" => some false | "dict", "int" => some false | "dict", "bool" => some false | "dict", "list" => some false | "dict", "tuple" => some false | "dict", "dict" => some true
  | _, _ => none
theorem isiB_kit {K : PySem.W.Frag} {n T : String} {b : Bool} (h : isiB n T = some b) : PySem.W.kitOne K (.type n) (.type T) = some b := by
  unfold isiB at h
  split at h <;> first | (cases h; exact kit_ty (by decide +kernel)) | cases h
def isiD (ds : List Dv) (k : Sl → Prop) : Prop := match ds with
  | [d, .ty T] => match d.tn with
    | some n => match isiB n T with
      | some b => k (.fz (.bl b))
      | none => False
    | none => False
  | _ => False
theorem bn_isi : BnV X (.builtin "isinstance") isiD := by
  intro g0 g σ s ds vs Q QV r rs k h
  unfold isiD at h
  split at h
  · cases rs with
    | cons h1 rs =>
    cases rs with
    | cons h2 rs =>
    cases rs; cases h2
    split at h
    · rename_i n hn
      split at h
      · rename_i b hb
        exact cru call_isi ⟨_, _, _, _, b, rfl, .ty _, h1.tyx hn, isiB_kit hb, k.fz r (Rp.bl _) h⟩
      · exact h.elim
    · exact h.elim
  · exact h.elim
/-! ### methods that only read -/
def tyD (T : String) (d : Dv) : Prop := match d with
  | .str _ => T = "str"
  | .lst _ => T = "list"
  | _ => False
theorem tyD_v {T : String} {d : Dv} {v : V} {K : PySem.W.Frag} (h : View K g v d) (q : tyD T d) : tyV K T v g.H := by
  unfold tyD at q
  split at q
  · rename_i z
    have h : Rp K g (.str z) v := h
    cases h
    exact q
  · obtain ⟨a, vs, rfl, hH, rs⟩ := h
    exact .inl ⟨q, vs, SqL.of hH⟩
  · exact q.elim
def MrV (X : Cx) (id : String) (F : Dv → List Dv → (Sl → Prop) → Prop) : Prop := ∀ g0 g σ s y v ds vs Q QV, Rel X.K g0 g σ s → View X.K g v y → Rps X.K g ds vs → CkO X.K g0 g σ s Q QV → F y ds Q → uM X id v vs g.H QV
def vMr (T : String) (F : Dv → List Dv → (Sl → Prop) → Prop) (tp : VTP) (ta : VTA) : VT := fun R s Q => tp R s fun p s => look s p (tyD T) ∧ ta R s fun ds s => look s p fun y => F y ds fun x => Q x s
section
variable {name : Str} {T id : String} {F : Dv → List Dv → (Sl → Prop) → Prop}
theorem ve_mr (pa : PlainAttrs T) (slot : Slot T name id) (hty : typeOf (.builtin id) = pure (.type "method_descriptor")) (hm : MrV X id F) (hp : VP X W o tp) (ha : VA X W (e :: es) tr)
    (hbase : attributeBase o name X.env (eval o X.env) = eval o X.env := by rfl)
    (hfew : ((backTo cpos (starEach (e :: es) X.env)).all (fun x => !x.1) && (backToKw cpos (keywordEach [] X.env)).all (fun x => x.1.isSome)
      && decide ((e :: es).length + ([] : List Keyword).length + (if ([] : List Keyword).isEmpty then 0 else 1) < 30)) = true := by rfl)
    (hline : (apos.endLine == cpos.line) = true := by rfl) (hs : starEach (e :: es) X.env = (false, eval e X.env) :: starEach es X.env := by rfl) (hplain : (backTo cpos (starEach es X.env)).any (·.1) = false := by rfl) :
    VE X W (.Call (.Attribute o name apos) (e :: es) [] cpos) (vMr T F tp tr) := by
  intro g0 g σ s R Q QV r cv k q
  refine peu (pe_bm pa slot hty mr_u pe_u pa_u hbase hfew hline hs hplain) (hp g0 g σ s R _ _ r cv (fun g1 s1 v p r1 ex1 pl1 q1 => ?_) q)
  obtain ⟨q1a, q1b⟩ := q1
  obtain ⟨d, vw, qt⟩ := look_view r1 pl1 q1a
  refine ⟨tyD_v vw qt, ha g0 g1 σ s1 R _ _ r1 (cv.ext ex1) (fun g2 s2 vs ds r2 ex2 rs2 q2 => ?_) q1b⟩
  obtain ⟨y, vw2, q3⟩ := look_view r2 (pl1.ext ex2) q2
  exact hm g0 g2 σ s2 y v ds vs _ _ r2 vw2 rs2 (fun g3 w z r3 ex3 tm q4 => k g3 s2 w z r3 ((ex1.trans ex2).trans ex3) tm q4) q3
end
def joinD (y : Dv) (ds : List Dv) (k : Sl → Prop) : Prop := match y, ds with
  | .str a, [.lst ws] => match strsOf ws with
    | some ys => (ys.map (·.length)).sum + ys.length * a.length ≤ 16777216 ∧ k (.fz (.str (Txt.join a ys)))
    | none => False
  | _, _ => False
theorem mr_join : MrV X "str.join" joinD := by
  intro g0 g σ s y v ds vs Q QV r vw rs k h
  unfold joinD at h
  split at h
  · rename_i a ws
    have vw : Rp X.K g (.str a) v := vw
    cases vw
    cases rs with
    | cons h1 rs =>
    cases rs
    cases h1 with
    | lst hH rs =>
    split at h
    · rename_i ys hy
      have e := strsOf_eq hy
      subst e
      have e2 := rs.strs_eq
      subst e2
      exact mru mt_join ⟨_, _, ys, rfl, rfl, .inl hH.sq, h.1, k.fz r (Rp.str _) h.2⟩
    · exact h.elim
  · exact h.elim
def padD (f : Str → Int → Str) (y : Dv) (ds : List Dv) (k : Sl → Prop) : Prop := match y, ds with
  | .str a, [.int i] => PadOk i = true ∧ k (.fz (.str (f a i)))
  | _, _ => False
theorem mr_pad {id : String} {f : Str → Int → Str} (hm : MtR X id (fun x xs H Q => ∃ (a : Str) (i : Int), x = .str a ∧ xs = [.int i] ∧ PadOk i = true ∧ Q (.str (f a i)) H)) : MrV X id (padD f) := by
  intro g0 g σ s y v ds vs Q QV r vw rs k h
  unfold padD at h
  split at h
  · rename_i a i
    have vw : Rp X.K g (.str a) v := vw
    cases vw
    cases rs with
    | cons h1 rs =>
    cases rs; cases h1
    exact mru hm ⟨_, _, rfl, rfl, h.1, k.fz r (Rp.str _) h.2⟩
  · exact h.elim
theorem mr_ljust : MrV X "str.ljust" (padD Txt.ljust) := mr_pad mt_ljust
theorem mr_rjust : MrV X "str.rjust" (padD Txt.rjust) := mr_pad mt_rjust
theorem mr_zfill : MrV X "str.zfill" (padD Txt.zfill) := mr_pad mt_zfill
def countD (y : Dv) (ds : List Dv) (k : Sl → Prop) : Prop := match y, ds with
  | .lst xs, [d] => d.flat = true ∧ xs.all Dv.flat = true ∧ k (.fz (.int (xs.countP fun z => eqF z d)))
  | _, _ => False
theorem Rps.countF {K : PySem.W.Frag} {x : Dv} {v : V} (hx : Rp K g x v) (fx : x.flat = true) : ∀ {ds : List Dv} {vs : List V}, Rps K g ds vs → ds.all Dv.flat = true → vs.countP (fun z => eqV z v) = ds.countP fun z => eqF z x
  | _, _, .nil, _ => rfl
  | _, _, .cons h r, f => by
    have f2 := Bool.and_eq_true_iff.mp f
    rw [List.countP_cons, List.countP_cons, Rps.countF hx fx r f2.2, h.eqF hx f2.1 fx]
theorem mr_count : MrV X "list.count" countD := by
  intro g0 g σ s y v ds vs Q QV r vw rs k h
  unfold countD at h
  split at h
  · obtain ⟨a, us, rfl, hH, ru⟩ := vw
    cases rs with
    | cons h1 rs =>
    cases rs
    refine mru mt_lcountF ⟨_, _, _, rfl, rfl, SqL.of hH, h1.flat h.1, ru.flat h.2.1, ?_⟩
    rw [ru.countF h1 h.1 h.2.1]
    exact k.fz r (Rp.int _) h.2.2
  · exact h.elim
def indexD (y : Dv) (ds : List Dv) (k : Sl → Prop) : Prop := match y, ds with
  | .lst xs, [d] => d.flat = true ∧ xs.all Dv.flat = true ∧ (xs.any fun z => eqF z d) = true ∧ k (.fz (.int (xs.findIdx fun z => eqF z d)))
  | _, _ => False
theorem mr_index : MrV X "list.index" indexD := by
  intro g0 g σ s y v ds vs Q QV r vw rs k h
  unfold indexD at h
  split at h
  · rename_i xs d
    obtain ⟨a, us, rfl, hH, ru⟩ := vw
    cases rs with
    | @cons _ v1 _ _ h1 rs =>
    cases rs
    obtain ⟨f1, f2, f3, h⟩ := h
    have key : ∀ (m : Nat) (z' : V), us[m]? = some z' → ∃ d', xs[m]? = some d' ∧ eqV z' v1 = eqF d' d := fun m z' e => by
      obtain ⟨d', e1, e2⟩ := ru.getV e
      exact ⟨d', e1, e2.eqF h1 (List.all_eq_true.mp f2 _ (List.mem_of_getElem? e1)) f1⟩
    have hlt : xs.findIdx (fun z => eqF z d) < xs.length := by
      rw [List.findIdx_lt_length]
      obtain ⟨z, hz, e⟩ := List.any_eq_true.mp f3
      exact ⟨z, hz, e⟩
    obtain ⟨z, hz, rz⟩ := ru.get (List.getElem?_eq_getElem hlt)
    obtain ⟨d', e1, e2⟩ := key _ _ hz
    rw [List.getElem?_eq_getElem hlt] at e1
    cases e1
    refine mru mt_index ⟨_, _, _, _, z, rfl, rfl, SqL.of hH, h1.flat f1, ru.flat f2, hz, ?_, fun m z' hm e => ?_, k.fz r (Rp.int _) h⟩
    · rw [e2]
      exact List.findIdx_getElem (p := fun z => eqF z d) (w := hlt)
    · obtain ⟨d', e1, e2⟩ := key _ _ e
      rw [e2]
      have hm' : m < xs.length := Nat.lt_trans hm hlt
      rw [List.getElem?_eq_getElem hm'] at e1
      cases e1
      exact List.not_of_lt_findIdx hm
  · exact h.elim
/-! ### what is changed in place -/
def mutAt (s : S) (p : Pl) (k : Bd → (Bd → S) → Prop) : Prop := match p with
  | .slot i => match s.ρ[i]? with
    | some (.ow b) => k b fun b' => s.put i (.ow b')
    | some (.fz (.obj n)) => match s.st[n]? with
      | some (.bd b) => k b fun b' => s.cell n (.bd b')
      | _ => False
    | _ => False
  | .val (.obj n) => match s.st[n]? with
    | some (.bd b) => k b fun b' => s.cell n (.bd b')
    | _ => False
  | _ => False
theorem mut_ok {K : PySem.W.Frag} {v : V} {p : Pl} {k : Bd → (Bd → S) → Prop} (r : Rel K g0 g σ s) (h : PlAt K g σ v p) (q : mutAt s p k) :
    ∃ a b f, v = .ref a ∧ BdAt K g a b ∧ k b f ∧ ∀ o b', BdAt K (g.wr a o) a b' → Rel K g0 (g.wr a o) σ (f b') ∧ Ext g (g.wr a o) := by
  have cell : ∀ {n : Nat} {b : Bd}, Rp K g (.obj n) v → s.st[n]? = some (.bd b) → (k b fun b' => s.cell n (.bd b')) →
      ∃ a b f, v = .ref a ∧ BdAt K g a b ∧ k b f ∧ ∀ o b', BdAt K (g.wr a o) a b' → Rel K g0 (g.wr a o) σ (f b') ∧ Ext g (g.wr a o) := fun {n b} rp hs q => by
    cases rp with
    | obj ha =>
    obtain ⟨a, e1, _, e2⟩ := r.ce n _ hs
    rw [ha] at e1
    cases e1
    exact ⟨_, b, _, rfl, e2, q, fun o b' new => r.wrCell ha new⟩
  unfold mutAt at q
  split at q
  · rename_i i
    split at q
    · rename_i b hb
      obtain ⟨a, e, _, _, hb2⟩ := r.at_ i _ hb
      have h : σ[i]? = some (some v) := h
      rw [h] at e
      cases e
      exact ⟨a, b, _, rfl, hb2, q, fun o b' new => r.wrSlot hb h new⟩
    · rename_i n hn
      obtain ⟨v', e, rp⟩ := r.at_ i _ hn
      have h : σ[i]? = some (some v) := h
      rw [h] at e
      cases e
      split at q
      · rename_i b hb
        exact cell rp hb q
      · exact q.elim
    · exact q.elim
  · rename_i n
    split at q
    · rename_i b hb
      exact cell h hb q
    · exact q.elim
  · exact q.elim
/-- a method that changes its thing -/
def MuV (X : Cx) (id : String) (F : Bd → List Dv → (Dv → Bd → Prop) → Prop) : Prop := ∀ g a b ds vs k QV, BdAt X.K g a b → Rps X.K g ds vs →
  (∀ d v b' o, Rp X.K g d v → (∀ g', Ext g g' → g'.H a = some o → BdAt X.K g' a b') → k d b' → QV v (upd g.H a o)) → F b ds k → uM X id (.ref a) vs g.H QV
def vMu (T : String) (F : Bd → List Dv → (Dv → Bd → Prop) → Prop) (tp : VTP) (ta : VTA) : VT := fun R s Q => tp R s fun p s => look s p (tyD T) ∧ ta R s fun ds s => mutAt s p fun b f => F b ds fun d b' => Q (.fz d) (f b')
theorem mu_step {id : String} {F : Bd → List Dv → (Dv → Bd → Prop) → Prop} (hm : MuV X id F) {v : V} {p : Pl} {ds : List Dv} {vs : List V} {Q : Sl → S → Prop} {QV : VK} (r : Rel X.K g0 g σ s) (pl : PlAt X.K g σ v p) (rs : Rps X.K g ds vs) (k : CkE X.K g0 g σ Q QV)
    (q : mutAt s p fun b f => F b ds fun d b' => Q (.fz d) (f b')) : uM X id v vs g.H QV := by
  obtain ⟨a, b, f, rfl, hb, q2, w⟩ := mut_ok r pl q
  refine hm g a b ds vs _ QV hb rs (fun d v b' o rp new qd => ?_) q2
  have c0 : g.c a = 1 ∨ g.c a = 2 := by
    cases p with
    | slot i =>
      unfold mutAt at q
      dsimp only at q
      have pl : σ[i]? = some (some (.ref a)) := pl
      split at q
      · rename_i b hb
        obtain ⟨a', e, h2, _⟩ := r.at_ i _ hb
        rw [pl] at e
        cases e
        exact .inr h2
      · rename_i n hn
        obtain ⟨v', e, rp⟩ := r.at_ i _ hn
        rw [pl] at e
        cases e
        cases rp with
        | obj ha =>
        obtain ⟨_, _, h1⟩ := cells_live r ha
        exact .inl h1
      · exact q.elim
    | val d =>
      unfold mutAt at q
      dsimp only at q
      split at q
      · rename_i e
        cases e
      · rename_i n e
        cases e
        cases pl with
        | obj ha =>
        obtain ⟨_, _, h1⟩ := cells_live r ha
        exact .inl h1
      · exact q.elim
  have ex : Ext g (g.wr a o) := ext_wr c0
  obtain ⟨r2, _⟩ := w o b' (new _ ex upd_same)
  exact k (g.wr a o) _ v (.fz d) r2 ex (rp.ext ex) qd
section
variable {name : Str} {T id : String} {F : Bd → List Dv → (Dv → Bd → Prop) → Prop}
theorem ve_mu (pa : PlainAttrs T) (slot : Slot T name id) (hty : typeOf (.builtin id) = pure (.type "method_descriptor")) (hm : MuV X id F) (hp : VP X W o tp) (ha : VA X W (e :: es) tr)
    (hbase : attributeBase o name X.env (eval o X.env) = eval o X.env := by rfl)
    (hfew : ((backTo cpos (starEach (e :: es) X.env)).all (fun x => !x.1) && (backToKw cpos (keywordEach [] X.env)).all (fun x => x.1.isSome)
      && decide ((e :: es).length + ([] : List Keyword).length + (if ([] : List Keyword).isEmpty then 0 else 1) < 30)) = true := by rfl)
    (hline : (apos.endLine == cpos.line) = true := by rfl) (hs : starEach (e :: es) X.env = (false, eval e X.env) :: starEach es X.env := by rfl) (hplain : (backTo cpos (starEach es X.env)).any (·.1) = false := by rfl) :
    VE X W (.Call (.Attribute o name apos) (e :: es) [] cpos) (vMu T F tp tr) := by
  intro g0 g σ s R Q QV r cv k q
  refine peu (pe_bm pa slot hty mr_u pe_u pa_u hbase hfew hline hs hplain) (hp g0 g σ s R _ _ r cv (fun g1 s1 v p r1 ex1 pl1 q1 => ?_) q)
  obtain ⟨q1a, q1b⟩ := q1
  obtain ⟨d, vw, qt⟩ := look_view r1 pl1 q1a
  refine ⟨tyD_v vw qt, ha g0 g1 σ s1 R _ _ r1 (cv.ext ex1) (fun g2 s2 vs ds r2 ex2 rs2 q2 => ?_) q1b⟩
  exact mu_step hm r2 (pl1.ext ex2) rs2 (k.ext (ex1.trans ex2)) q2
theorem ve_mu0 (pa : PlainAttrs T) (slot : Slot T name id) (hty : typeOf (.builtin id) = pure (.type "method_descriptor")) (hm : MuV X id F) (hp : VP X W o tp)
    (hbase : attributeBase o name X.env (eval o X.env) = eval o X.env := by rfl) (hline : (apos.endLine == cpos.line) = true := by rfl) :
    VE X W (.Call (.Attribute o name apos) [] [] cpos) (vMu T F tp aNil) := by
  intro g0 g σ s R Q QV r cv k q
  refine peu (pe_bm0 pa slot hty mr_u pe_u hbase hline) (hp g0 g σ s R _ _ r cv (fun g1 s1 v p r1 ex1 pl1 q1 => ?_) q)
  obtain ⟨q1a, q1b⟩ := q1
  obtain ⟨d, vw, qt⟩ := look_view r1 pl1 q1a
  exact ⟨tyD_v vw qt, mu_step hm r1 pl1 .nil (k.ext ex1) q1b⟩
end
theorem bd_lst {K : PySem.W.Frag} {a : Addr} {ds : List Dv} {vs : List V} (rs : Rps K g ds vs) : ∀ g', Ext g g' → g'.H a = some (.lst vs) → BdAt K g' a (.lst ds) := fun g' ex e => ⟨vs, e, rs.ext ex⟩
theorem bd_dic {K : PySem.W.Frag} {a : Addr} {ds : List (Key × Dv)} {vs : List (Key × V)} (rs : Rpk K g ds vs) : ∀ g', Ext g g' → g'.H a = some (.dK vs) → BdAt K g' a (.dic ds) := fun g' ex e => ⟨vs, e, rs.ext ex⟩
def appD (b : Bd) (ds : List Dv) (k : Dv → Bd → Prop) : Prop := match b, ds with
  | .lst xs, [y] => xs.length < sizeLine ∧ k .non (.lst (xs ++ [y]))
  | _, _ => False
theorem mu_append : MuV X "list.append" appD := by
  intro g a b ds vs k QV hb rs w h
  unfold appD at h
  split at h
  · obtain ⟨us, hH, ru⟩ := hb
    cases rs with
    | cons h1 rs =>
    cases rs
    exact mru mt_append ⟨_, _, _, rfl, rfl, hH, by rw [← ru.len]; exact h.1, w _ _ _ _ .non (bd_lst (ru.app (.one h1))) h.2⟩
  · exact h.elim
def extendD (b : Bd) (ds : List Dv) (k : Dv → Bd → Prop) : Prop := match b, ds with
  | .lst xs, [.lst ys] => xs.length + ys.length ≤ sizeLine ∧ k .non (.lst (xs ++ ys))
  | _, _ => False
theorem mu_extend : MuV X "list.extend" extendD := by
  intro g a b ds vs k QV hb rs w h
  unfold extendD at h
  split at h
  · obtain ⟨us, hH, ru⟩ := hb
    cases rs with
    | cons h1 rs =>
    cases rs
    cases h1 with
    | lst hy ry =>
    exact mru mt_extend ⟨_, _, _, _, rfl, rfl, hH, hy.2, by rw [← ru.len, ← ry.len]; exact h.1, w _ _ _ _ .non (bd_lst (ru.app ry)) h.2⟩
  · exact h.elim
def popDr (b : Bd) (ds : List Dv) (k : Dv → Bd → Prop) : Prop := match b, ds with
  | .lst xs, [] => match xs.getLast? with
    | some y => k y (.lst xs.dropLast)
    | none => False
  | .lst xs, [.int i] => -(2 ^ 63) ≤ i ∧ i < 2 ^ 63 ∧ match seqIndex? i xs.length with
    | some n => match xs[n]? with
      | some y => k y (.lst (xs.eraseIdx n))
      | none => False
    | none => False
  | _, _ => False
structure popD (b : Bd) (ds : List Dv) (k : Dv → Bd → Prop) : Prop where
  h : popDr b ds k
theorem mu_pop : MuV X "list.pop" popD := by
  intro g a b ds vs k QV hb rs w h
  replace h := popD.h h; unfold popDr at h
  split at h
  · obtain ⟨us, hH, ru⟩ := hb
    cases rs
    split at h
    · rename_i y hy
      rw [List.getLast?_eq_getElem?] at hy
      obtain ⟨v, hv, rv⟩ := ru.get hy
      rw [ru.len] at hv
      exact mru mt_pop ⟨_, _, v, rfl, rfl, hH, hv, w _ _ _ _ rv (bd_lst ru.dropLast) h⟩
    · exact h.elim
  · obtain ⟨us, hH, ru⟩ := hb
    cases rs with
    | cons h1 rs =>
    cases rs; cases h1
    obtain ⟨h0, h1, h⟩ := h
    split at h
    · rename_i n hn
      split at h
      · rename_i y hy
        obtain ⟨v, hv, rv⟩ := ru.get hy
        exact mru mt_popAt ⟨_, _, _, n, v, rfl, rfl, hH, h0, h1, by rw [← ru.len]; exact hn, hv, w _ _ _ _ rv (bd_lst (ru.erase n)) h⟩
      · exact h.elim
    · exact h.elim
  · exact h.elim
end
end VL

/-! V5: statements, loops, comprehensions. -/
namespace VL
open PySem PySem.Spec PyProof.Rows L2
/-- how a statement ends -/
inductive Fl where
  | nx | bk | ct | rt (x : Sl)
abbrev VTS := RK → S → (Fl → S → Prop) → Prop
structure CkS (K : PySem.W.Frag) (g0 g : Mo) (Q : Fl → S → Prop) (D : Ends) : Prop where
  nx : ∀ g' σ' s', Rel K g0 g' σ' s' → Ext g g' → Q .nx s' → D.nx σ' g'.H
  bk : ∀ g' σ' s', Rel K g0 g' σ' s' → Ext g g' → Q .bk s' → D.bk σ' g'.H
  ct : ∀ g' σ' s', Rel K g0 g' σ' s' → Ext g g' → Q .ct s' → D.ct σ' g'.H
  rt : ∀ g' σ' s' v x, Rel K g0 g' σ' s' → Ext g g' → Tmp K g0 g' σ' s' v x → Q (.rt x) s' → D.rt v g'.H
def VS (X : Cx) (W : WX) (st : Stmt) (t : VTS) : Prop := ∀ g0 g σ s R Q D, Rel X.K g0 g σ s → Cov X.K g0 g W R → CkS X.K g0 g Q D → t R s Q → uS X st D σ g.H
def VSs (X : Cx) (W : WX) (sts : List Stmt) (t : VTS) : Prop := ∀ g0 g σ s R Q D, Rel X.K g0 g σ s → Cov X.K g0 g W R → CkS X.K g0 g Q D → t R s Q → uSs X sts D σ g.H
abbrev VTG := Sl → S → (S → Prop) → Prop
abbrev VTGs := List Dv → S → (S → Prop) → Prop
def CkG (K : PySem.W.Frag) (g0 g : Mo) (Q : S → Prop) (QV : L2.St → Hp → Prop) : Prop := ∀ g' σ' s', Rel K g0 g' σ' s' → Ext g g' → Q s' → QV σ' g'.H
def VG (X : Cx) (tg : Expr) (t : VTG) : Prop := ∀ g0 g σ s v x Q QV, Rel X.K g0 g σ s → Tmp X.K g0 g σ s v x → CkG X.K g0 g Q QV → t x s Q → uG X tg v σ g.H QV
structure uGs (X : Cx) (ts : List Expr) (vs : List V) (σ : L2.St) (H : Hp) (Q : L2.St → Hp → Prop) : Prop where
  run : ∀ (pins : List (Addr × Obj)) (s : Shared) (us : List Value), Inv X pins σ H s → Vals vs us →
    wpAny (model X.prog X.w) X.A (assignInOrder ((assignEach ts X.env).map (·.2)) us) (fun _ s' => ∃ σ' H', Inv X pins σ' H' s' ∧ Q σ' H') X.xe s
theorem pgs_u {X : Cx} {ts : List Expr} : PGs X ts (uGs X ts) := ⟨fun pins s σ H vs us Q I r h => h.run pins s us I r⟩
theorem pgsu {X : Cx} {ts : List Expr} {t : TGs} {σ : L2.St} {H : Hp} (h : PGs X ts t) {vs : List V} {Q : L2.St → Hp → Prop} (q : t vs σ H Q) : uGs X ts vs σ H Q := ⟨fun pins s us I r => h.run pins s σ H vs us Q I r q⟩
def VGs (X : Cx) (ts : List Expr) (t : VTGs) : Prop := ∀ g0 g σ s vs ds Q QV, Rel X.K g0 g σ s → Rps X.K g ds vs → CkG X.K g0 g Q QV → t ds s Q → uGs X ts vs σ g.H QV
section
variable {X : Cx} {W : WX} {e a b c o : Expr} {es rest : List Expr} {ta tb tc t : VT} {tp : VTP} {tr : VTA} {g0 g g' : Mo} {σ : L2.St} {s : S} {R : RK} {pos : Pos} {x : Str} {p cpos apos : Pos} {st : Stmt} {sts : List Stmt} {K : PySem.W.Frag}
theorem CkS.ext {Q : Fl → S → Prop} {D : Ends} (k : CkS K g0 g Q D) (x : Ext g g') : CkS K g0 g' Q D :=
  ⟨fun g2 σ s r ex => k.nx g2 σ s r (x.trans ex), fun g2 σ s r ex => k.bk g2 σ s r (x.trans ex), fun g2 σ s r ex => k.ct g2 σ s r (x.trans ex), fun g2 σ s v y r ex => k.rt g2 σ s v y r (x.trans ex)⟩
theorem CkG.ext {Q : S → Prop} {QV : L2.St → Hp → Prop} (k : CkG K g0 g Q QV) (x : Ext g g') : CkG K g0 g' Q QV := fun g2 σ s r ex => k g2 σ s r (x.trans ex)
/-! ### blocks, small statements -/
def sNil : VTS := fun _ s Q => Q .nx s
def sSeq (t u : VTS) : VTS := fun R s Q => t R s fun f s => match f with
  | .nx => u R s Q
  | .bk => Q .bk s
  | .ct => Q .ct s
  | .rt x => Q (.rt x) s
theorem vss_nil : VSs X W [] sNil := fun g0 g σ s R Q D r cv k q => pssu pss_nil (k.nx g σ s r Ext.refl q)
theorem vss_one {t : VTS} (h : VS X W st t) : VSs X W [st] t := fun g0 g σ s R Q D r cv k q => pssu (pss_one ps_u) (h g0 g σ s R Q D r cv k q)
theorem vss_cons {t u : VTS} (h : VS X W st t) (hs : VSs X W sts u) : VSs X W (st :: sts) (sSeq t u) := by
  intro g0 g σ s R Q D r cv k q
  refine pssu (pss_cons ps_u pss_u) (h g0 g σ s R (fun f s => match f with | .nx => u R s Q | .bk => Q .bk s | .ct => Q .ct s | .rt x => Q (.rt x) s) _ r cv ⟨fun g' σ' s' r' ex q' => ?_, fun g' σ' s' r' ex q' => k.bk g' σ' s' r' ex q', fun g' σ' s' r' ex q' => k.ct g' σ' s' r' ex q', fun g' σ' s' v x r' ex tm q' => k.rt g' σ' s' v x r' ex tm q'⟩ q)
  exact hs g0 g' σ' s' R Q D r' (cv.ext ex) (k.ext ex) q'
def sBreak : VTS := fun _ s Q => Q .bk s
def sCont : VTS := fun _ s Q => Q .ct s
theorem vs_pass : VS X W (.Pass pos) sNil := fun g0 g σ s R Q D r cv k q => psu ps_pass (k.nx g σ s r Ext.refl q)
theorem vs_break : VS X W (.Break pos) sBreak := fun g0 g σ s R Q D r cv k q => psu ps_break (k.bk g σ s r Ext.refl q)
theorem vs_cont : VS X W (.Continue pos) sCont := fun g0 g σ s R Q D r cv k q => psu ps_continue (k.ct g σ s r Ext.refl q)
theorem vs_doc {z : Str} {j : Nat} {pos' : Pos} : VS X W (.Expr (.Constant (.str z) j pos) pos') sNil := fun g0 g σ s R Q D r cv k q => psu ps_doc (k.nx g σ s r Ext.refl q)
def sDrop (t : VT) : VTS := fun R s Q => t R s fun _ s => Q .nx s
theorem vs_expr (h : VE X W e t) (hs : swapsWith e none pos.line X.env = pure false := by rfl) : VS X W (.Expr e pos) (sDrop t) := fun g0 g σ s R Q D r cv k q =>
  psu (ps_expr pe_u hs) (h g0 g σ s R _ _ r cv (fun g' s' v x r' ex tm q' => k.nx g' σ s' r' ex q') q)
def sRet (t : VT) : VTS := fun R s Q => t R s fun x s => Q (.rt x) s
theorem vs_ret (h : VE X W e t) : VS X W (.Return (some e) pos) (sRet t) := fun g0 g σ s R Q D r cv k q =>
  psu (ps_ret pe_u) (h g0 g σ s R _ _ r cv (fun g' s' v x r' ex tm q' => k.rt g' σ s' v x r' ex tm q') q)
def sRetN : VTS := fun _ s Q => Q (.rt (.fz .non)) s
theorem vs_retN : VS X W (.Return none pos) sRetN := fun g0 g σ s R Q D r cv k q => psu ps_retN (k.rt g σ s .non (.fz .non) r Ext.refl Rp.non q)
def sIf (tc : VTC) (t u : VTS) : VTS := fun R s Q => tc R s fun b s => br b (t R s Q) (u R s Q)
theorem vs_if {tc : VTC} {t u : VTS} {bs cs : List Stmt} (hc : VC X W c tc) (ha : VSs X W bs t) (hb : VSs X W cs u) : VS X W (.If c bs cs pos) (sIf tc t u) := by
  intro g0 g σ s R Q D r cv k q
  refine psu (ps_if pt_u pss_u pss_u) (hc g0 g σ s R _ _ r cv (fun g' s' b r' ex q' => ?_) q)
  cases b with
  | true => exact ha g0 g' σ s' R Q D r' (cv.ext ex) (k.ext ex) q'
  | false => exact hb g0 g' σ s' R Q D r' (cv.ext ex) (k.ext ex) q'
/-! ### targets -/
def gNm (i : Nat) : VTG := fun x s Q => Q (s.put i x)
theorem vg_name {i : Nat} (hN : X.N.Nodup) (hi : X.N[i]? = some x) (hx : Loc X.env.scope x) (hf : X.fn x = true ∨ X.env.scope.names.lookup x = some .local := by first | exact .inl rfl | exact .inr rfl | assumption) : VG X (.Name x pos) (gNm i) :=
  fun g0 g σ s v y Q QV r tm k q => pgu (pg_name hN hi hx hf) (k g _ _ (r.put tm) Ext.refl q)
def gsNil : VTGs := fun ds s Q => match ds with
  | [] => Q s
  | _ => False
def gsCons (t : VTG) (u : VTGs) : VTGs := fun ds s Q => match ds with
  | d :: ds => t (.fz d) s fun s => u ds s Q
  | [] => False
theorem vgs_nil : VGs X [] gsNil := fun g0 g σ s vs ds Q QV r rs k q => by
  unfold gsNil at q
  split at q
  · cases rs
    exact pgsu pgs_nil ⟨rfl, k g σ s r Ext.refl q⟩
  · exact q.elim
theorem vgs_cons {t : VTG} {u : VTGs} (h : VG X e t) (hs : VGs X es u) (hq : (assignEach (e :: es) X.env).map (·.2) = assign e X.env :: (assignEach es X.env).map (·.2) := by rfl) : VGs X (e :: es) (gsCons t u) := fun g0 g σ s vs ds Q QV r rs k q => by
  unfold gsCons at q
  split at q
  · rename_i d ds
    cases rs with
    | cons h1 rs =>
    refine pgsu (pgs_cons pg_u pgs_u hq) ⟨_, _, rfl, h g0 g σ s _ (.fz d) _ _ r h1 (fun g' σ' s' r' ex q' => ?_) q⟩
    exact hs g0 g' σ' s' _ ds Q QV r' (rs.ext ex) (k.ext ex) q'
  · exact q.elim
def gTu (n : Nat) (u : VTGs) : VTG := fun x s Q => match x.d with
  | .tup ds => ds.length = n ∧ u ds s Q
  | _ => False
theorem vg_tup {u : VTGs} {m n : Nat} (hc : X.calm = true) (h : VGs X es u) (hn : (assignEach es X.env).length = n := by rfl) (hst : (assignEach es X.env).findIdx? (·.1) = none := by rfl) : VG X (.Tuple es m pos) (gTu n u) :=
  fun g0 g σ s v y Q QV r tm k q => by
  unfold gTu at q
  split at q
  · rename_i ds hd
    have tm : Rp X.K g (.tup ds) v := by
      cases y with
      | un => exact tm.elim
      | fz d =>
        have hd : d = .tup ds := hd
        rw [← hd]
        exact tm
      | ow b =>
        cases b <;> cases hd
    cases tm with
    | tup hH rs =>
    exact pgu (pg_tup hc pgs_u hn hst) ⟨_, _, rfl, hH.sq, by rw [← rs.len]; exact q.1, h g0 g σ s _ ds Q QV r rs k q.2⟩
  · exact q.elim
/-! ### stores -/
def sSet (i : Nat) (t : VT) : VTS := fun R s Q => t R s fun x s => Q .nx (s.put i x)
theorem vs_set {i : Nat} {pos' : Pos} (hN : X.N.Nodup) (hi : X.N[i]? = some x) (hx : Loc X.env.scope x) (h : VE X W e t) (hs : swapsWith e (some (.Name x pos')) pos.line X.env = pure false := by rfl)
    (hf : X.fn x = true ∨ X.env.scope.names.lookup x = some .local := by first | exact .inl rfl | exact .inr rfl | assumption) : VS X W (.Assign [.Name x pos'] e pos) (sSet i t) := fun g0 g σ s R Q D r cv k q =>
  psu (ps_set hN hi hx pe_u hs hf) (h g0 g σ s R _ _ r cv (fun g' s' v y r' ex tm q' => k.nx g' _ _ (r'.put tm) ex q') q)
/-- a new thing becomes a cell -/
def vBox (t : VT) : VT := fun R s Q => t R s fun x s => match x with
  | .ow b => Q (.fz (.obj s.st.length)) { s with st := s.st ++ [.bd b] }
  | _ => False
theorem ve_box (h : VE X W e t) : VE X W e (vBox t) := by
  intro g0 g σ s R Q QV r cv k q
  refine h g0 g σ s R _ _ r cv (fun g' s' v y r' ex tm q' => ?_) q
  split at q'
  · obtain ⟨a, rfl, h2, h0, hb, n⟩ := tm
    obtain ⟨r2, ex2, rp⟩ := r'.box (cl := .bd _) h2 h0 hb n
    exact k (g'.box a) _ (.ref a) (.fz (.obj _)) r2 (ex.trans ex2) rp q'
  · exact q'.elim
def sAsg (t : VT) (tg : VTG) : VTS := fun R s Q => t R s fun x s => tg x s fun s => Q .nx s
theorem vs_asg {tg : Expr} {u : VTG} (h : VE X W e t) (hg : VG X tg u) (hs : swapsWithSole [tg] e pos.line X.env = pure false := by rfl) (hw : swappedStores [tg] e X.env = pure none := by rfl)
    (h1 : (assignEach [tg] X.env).map (·.2) = [assign tg X.env] := by rfl) : VS X W (.Assign [tg] e pos) (sAsg t u) := fun g0 g σ s R Q D r cv k q =>
  psu (ps_asg pe_u pg_u hs hw h1) (h g0 g σ s R _ _ r cv (fun g' s' v y r' ex tm q' => hg g0 g' σ s' v y _ _ r' tm (fun g2 σ2 s2 r2 ex2 q2 => k.nx g2 σ2 s2 r2 (ex.trans ex2) q2) q') q)
/-- a, b = x, y -/
def sPar (i j : Nat) (ta : VTA) : VTS := fun R s Q => ta R s fun ds s => match ds with
  | [x, y] => Q .nx ((s.put i (.fz x)).put j (.fz y))
  | _ => False
theorem vs_par {i j : Nat} {x y : Str} {px py pt : Pos} {kt k2 : Nat} {pt2 : Pos} (hc : X.calm = true) (hN : X.N.Nodup) (hi : X.N[i]? = some x) (hj : X.N[j]? = some y) (hij : i ≠ j)
    (hx : X.env.scope.names.lookup x = some .local) (hy : X.env.scope.names.lookup y = some .local) (ha : VA X W [a, b] tr)
    (hw : swappedStores [.Tuple [.Name x px, .Name y py] kt pt] (.Tuple [a, b] k2 pt2) X.env = pure (some [x, y]))
    (hs : swapsWithSole [.Tuple [.Name x px, .Name y py] kt pt] (.Tuple [a, b] k2 pt2) pos.line X.env = pure false := by rfl) :
    VS X W (.Assign [.Tuple [.Name x px, .Name y py] kt pt] (.Tuple [a, b] k2 pt2) pos) (sPar i j tr) := fun g0 g σ s R Q D r cv k q =>
  psu (ps_par hc hN hi hj hij hx hy pa_u hw hs) (ha g0 g σ s R _ _ r cv (fun g' s' vs ds r' ex rs q' => by
    split at q'
    · rename_i d1 d2
      cases rs with
      | cons h1 rs =>
      cases rs with
      | cons h2 rs =>
      cases rs
      have r1 := r'.put (i := i) (x := .fz d1) h1
      exact ⟨_, _, rfl, k.nx g' _ _ (r1.put (i := j) (x := .fz d2) h2) ex q'⟩
    · exact q'.elim) q)
def sPar3 (i j l : Nat) (ta : VTA) : VTS := fun R s Q => ta R s fun ds s => match ds with
  | [x, y, z] => Q .nx (((s.put i (.fz x)).put j (.fz y)).put l (.fz z))
  | _ => False
/-- name op= e -/
def sAug (i : Nat) (F : Dv → Dv → (Sl → Prop) → Prop) (t : VT) : VTS := fun R s Q => match s.ρ[i]? with
  | some (.fz d) => t R s fun y s => F d y.d fun z => Q .nx (s.put i z)
  | _ => False
theorem ip_u {op : Operator} : PIp X op (uR X (inplaceOp op)) := fun pins s σ H x y v u Q I r1 r2 h => h pins s σ v u I r1 r2
theorem vs_aug {i : Nat} {op : Operator} {F : Dv → Dv → (Sl → Prop) → Prop} {pos' : Pos} (ho : OpV X (inplaceOp op) F) (hN : X.N.Nodup) (hi : X.N[i]? = some x) (hx : Loc X.env.scope x) (h : VE X W e t)
    (hf : X.fn x = true ∨ X.env.scope.names.lookup x = some .local := by first | exact .inl rfl | exact .inr rfl | assumption) : VS X W (.AugAssign (.Name x pos') op e pos) (sAug i F t) := by
  intro g0 g σ s R Q D r cv k q
  unfold sAug at q
  split at q
  · rename_i d hd
    obtain ⟨v, e1, rp⟩ := r.at_ i _ hd
    refine psu (ps_aug hN hi hx pe_u ip_u hf) ⟨v, e1, h.fz (Q := fun y s => F d y fun z => Q .nx (s.put i z)) r cv (fun g' s' w y r' ex rw' q' => ?_) q⟩
    exact ho g0 g' σ s' d y v w _ _ r' (rp.ext ex) rw' (fun g2 u z r2 ex2 tm q2 => k.nx g2 _ _ (r2.put tm) (ex.trans ex2) q2) q'
  · exact q.elim
def addA (x y : Dv) (Q : Sl → Prop) : Prop := match x, y with
  | .int a, .int b => Q (.fz (.int (a + b)))
  | .str a, .str b => a.length + b.length ≤ sizeLine ∧ Q (.fz (.str (a ++ b)))
  | _, _ => False
theorem ia_add : OpV X (inplaceOp .Add) addA := by
  intro g0 g σ s x y v u Q QV r rx ry k h
  unfold addA at h
  split at h
  · cases rx; cases ry
    exact oru iop_add ⟨_, _, rfl, rfl, k.fz r (Rp.int _) h⟩
  · cases rx; cases ry
    exact oru iop_add_str ⟨_, _, rfl, rfl, h.1, k.fz r (Rp.str _) h.2⟩
  · exact h.elim
theorem ia_sub : OpV X (inplaceOp .Sub) subD := by
  intro g0 g σ s x y v u Q QV r rx ry k h
  unfold subD at h
  split at h
  · cases rx; cases ry
    exact oru iop_sub ⟨_, _, rfl, rfl, k.fz r (Rp.int _) h⟩
  · exact h.elim
/-! ### o[i] = e -/
def uT (X : Cx) : TSet := fun o i v H Q => ∀ (pins : List (Addr × Obj)) (s : Shared) (σ : L2.St) (ov iv u : Value), Inv X pins σ H s → RelV o ov → RelV i iv → RelV v u →
    wpAny (model X.prog X.w) X.A (setItem ov iv u) (fun _ s' => ∃ H', Inv X pins σ H' s' ∧ Q H') X.xe s
theorem pst_u : PSet X (uT X) := fun pins s σ H o i v ov iv u Q I r1 r2 r3 h => h pins s σ ov iv u I r1 r2 r3
theorem pstu {t : TSet} (h : PSet X t) {o i v : V} {H : Hp} {Q : Hp → Prop} (q : t o i v H Q) : uT X o i v H Q := fun pins s σ ov iv u I r1 r2 r3 => h pins s σ H o i v ov iv u Q I r1 r2 r3 q
def putD (ks : List (Key × Dv)) (k : Key) (d : Dv) : List (Key × Dv) := if (ks.any fun kv => decide (kv.1 = k)) = true then ks.map (fun kv => if kv.1 = k then (kv.1, d) else kv) else ks ++ [(k, d)]
theorem Rpk.any {q : Key} : ∀ {ks : List (Key × Dv)} {kvs : List (Key × V)}, Rpk K g ks kvs → (kvs.any fun kv => decide (kv.1 = q)) = ks.any fun kv => decide (kv.1 = q)
  | _, _, .nil => rfl
  | _, _, .cons _ r => by rw [List.any_cons, List.any_cons, Rpk.any r]
theorem Rpk.mapP {q : Key} {d : Dv} {v : V} (h : Rp K g d v) : ∀ {ks : List (Key × Dv)} {kvs : List (Key × V)}, Rpk K g ks kvs → Rpk K g (ks.map fun kv => if kv.1 = q then (kv.1, d) else kv) (kvs.map fun kv => if kv.1 = q then (kv.1, v) else kv)
  | _, _, .nil => .nil
  | _, _, .cons (q := p) (d := d1) (v := v1) h1 r => by
    rw [List.map_cons, List.map_cons]
    by_cases z : p = q
    · rw [if_pos z, if_pos z]
      exact .cons h (Rpk.mapP h r)
    · rw [if_neg z, if_neg z]
      exact .cons h1 (Rpk.mapP h r)
theorem Rpk.app : ∀ {ks ks' : List (Key × Dv)} {kvs kvs' : List (Key × V)}, Rpk K g ks kvs → Rpk K g ks' kvs' → Rpk K g (ks ++ ks') (kvs ++ kvs')
  | _, _, _, _, .nil, s => s
  | _, _, _, _, .cons h r, s => .cons h (Rpk.app r s)
theorem Rpk.put {q : Key} {d : Dv} {v : V} (h : Rp K g d v) {ks : List (Key × Dv)} {kvs : List (Key × V)} (r : Rpk K g ks kvs) : Rpk K g (putD ks q d) (putK kvs q v) := by
  unfold putD putK
  rw [r.any]
  split
  · exact r.mapP h
  · exact r.app (.cons h .nil)
def setDr (b : Bd) (i x : Dv) (k : Bd → Prop) : Prop := match b, i with
  | .lst ds, .int z => match ixN ds.length z with
    | some j => k (.lst (ds.set j x))
    | none => False
  | .dic ks, i => match i.key with
    | some q => ks.length < sizeLine ∧ k (.dic (putD ks q x))
    | none => False
  | _, _ => False
structure setD (b : Bd) (i x : Dv) (k : Bd → Prop) : Prop where
  h : setDr b i x k
def sIx (tp : VTP) (ti t : VT) : VTS := fun R s Q => t R s fun x s => tp R s fun p s => ti R s fun i s => mutAt s p fun b f => setD b i.d x.d fun b' => Q .nx (f b')
/-- a place that may be changed is a cell's or a slot's own -/
theorem mut_col {v : V} {p : Pl} {k : Bd → (Bd → S) → Prop} (r : Rel K g0 g σ s) (h : PlAt K g σ v p) (q : mutAt s p k) :
    ∃ a b f, v = .ref a ∧ (g.c a = 1 ∨ g.c a = 2) ∧ BdAt K g a b ∧ k b f ∧ ∀ o b', BdAt K (g.wr a o) a b' → Rel K g0 (g.wr a o) σ (f b') := by
  have q' : mutAt s p fun b f => k b f := q
  obtain ⟨a, b, f, ev, hb, hk, w⟩ := mut_ok r h q
  refine ⟨a, b, f, ev, ?_, hb, hk, fun o b' n => (w o b' n).1⟩
  subst ev
  unfold mutAt at q'
  cases p with
  | slot i =>
    dsimp only at q'
    have pl : σ[i]? = some (some (.ref a)) := h
    split at q'
    · rename_i b hb
      obtain ⟨a', e, h2, _⟩ := r.at_ i _ hb
      rw [pl] at e
      cases e
      exact .inr h2
    · rename_i n hn
      obtain ⟨v', e, rp⟩ := r.at_ i _ hn
      rw [pl] at e
      cases e
      cases rp with
      | obj ha =>
      obtain ⟨_, _, h1⟩ := cells_live r ha
      exact .inl h1
    · exact q'.elim
  | val d =>
    dsimp only at q'
    split at q'
    · rename_i e
      cases e
    · rename_i n e
      cases e
      cases h with
      | obj ha =>
      obtain ⟨_, _, h1⟩ := cells_live r ha
      exact .inl h1
    · exact q'.elim
theorem vs_ix {ti : VT} {pos' : Pos} (hu : X.A.units + 1 < cLine) (hv : VE X W e t) (hp : VP X W a tp) (hi : VE X W b ti)
    (ha : ∀ v, assign (.Subscript a b pos') X.env v = (do
      let ov ← holding [v] (eval a X.env)
      let iv ← holding [v, ov] (eval b X.env)
      standAt pos'
      holding [v, ov, iv] (setItem ov iv v)
      release [v, ov, iv] []) := by intro _; rfl)
    (hs : swapsWithSole [.Subscript a b pos'] e pos.line X.env = pure false := by rfl) (hw : swappedStores [.Subscript a b pos'] e X.env = pure none := by rfl)
    (h1 : (assignEach [.Subscript a b pos'] X.env).map (·.2) = [assign (.Subscript a b pos') X.env] := by rfl) : VS X W (.Assign [.Subscript a b pos'] e pos) (sIx tp ti t) := by
  intro g0 g σ s R Q D r cv k q
  refine psu (ps_asg pe_u (pg_sub pe_u pe_u pst_u ha) hs hw h1) ?_
  refine hv.fz (Q := fun x s => tp R s fun p s => ti R s fun i s => mutAt s p fun b f => setD b i.d x fun b' => Q .nx (f b')) r cv (fun g1 s1 v x r1 ex1 rx q1 => ?_) q
  refine hp g0 g1 σ s1 R _ _ r1 (cv.ext ex1) (fun g2 s2 u p r2 ex2 pl q2 => ?_) q1
  refine hi.fz (Q := fun i s => mutAt s p fun b f => setD b i x fun b' => Q .nx (f b')) r2 (cv.ext (ex1.trans ex2)) (fun g3 s3 w i r3 ex3 ri q3 => ?_) q2
  obtain ⟨a, b, f, rfl, hc, hb, hk, wr⟩ := mut_col r3 (pl.ext ex3) q3
  have rx3 : Rp X.K g3 x v := (rx.ext ex2).ext ex3
  have go : ∀ o b', (∀ g', Ext g3 g' → g'.H a = some o → BdAt X.K g' a b') → Q .nx (f b') → D.nx σ (upd g3.H a o) := fun o b' new qn => by
    have ex : Ext g3 (g3.wr a o) := ext_wr hc
    exact k.nx (g3.wr a o) σ _ (wr o b' (new _ ex upd_same)) (((ex1.trans ex2).trans ex3).trans ex) qn
  replace hk := setD.h hk; unfold setDr at hk
  split at hk
  · obtain ⟨us, hH, ru⟩ := hb
    cases ri
    split at hk
    · rename_i j hj
      exact pstu set_list ⟨a, us, _, j, rfl, rfl, hH, by rw [← ru.len]; exact hj, go _ _ (bd_lst (ru.set rx3 j)) hk⟩
    · exact hk.elim
  · obtain ⟨us, hH, ru⟩ := hb
    split at hk
    · rename_i q0 hq0
      have ew := ri.key hq0
      subst ew
      exact pstu (set_dict hu) ⟨a, _, rfl, DPut.k hH (by rw [← ru.len]; exact hk.1), go _ _ (bd_dic (ru.put rx3)) hk.2⟩
    · exact hk.elim
  · exact hk.elim
/-! ### attributes -/
def lookF (f : Str) : List (Str × Dv) → Option Dv
  | [] => none
  | (n, d) :: r => if f == n then some d else lookF f r
def putFD (f : Str) (d : Dv) : List (Str × Dv) → List (Str × Dv)
  | [] => [(f, d)]
  | (n, x) :: r => if n = f then (n, d) :: r else (n, x) :: putFD f d r
theorem Rpf.len : ∀ {fs : List (Str × Dv)} {vs : List (Str × V)}, Rpf K g fs vs → fs.length = vs.length
  | _, _, .nil => rfl
  | _, _, .cons _ r => congrArg (· + 1) (Rpf.len r)
theorem Rpf.look {f : Str} {d : Dv} : ∀ {fs : List (Str × Dv)} {vs : List (Str × V)}, Rpf K g fs vs → lookF f fs = some d → ∃ v, vs.lookup f = some v ∧ Rp K g d v
  | _, _, .nil, e => by cases e
  | _, _, .cons (q := q) (v := v) h r, e => by
    unfold lookF at e
    rw [List.lookup_cons]
    by_cases z : (f == q) = true
    · rw [if_pos z] at e
      cases e
      rw [z]
      exact ⟨v, rfl, h⟩
    · rw [if_neg z] at e
      rw [Bool.eq_false_iff.mpr z]
      exact Rpf.look r e
theorem Rpf.none {f : Str} : ∀ {fs : List (Str × Dv)} {vs : List (Str × V)}, Rpf K g fs vs → lookF f fs = none → vs.lookup f = none
  | _, _, .nil, e => rfl
  | _, _, .cons (q := q) (v := v) h r, e => by
    unfold lookF at e
    rw [List.lookup_cons]
    by_cases z : (f == q) = true
    · rw [if_pos z] at e
      cases e
    · rw [if_neg z] at e
      rw [Bool.eq_false_iff.mpr z]
      exact Rpf.none r e
theorem Rpf.put {f : Str} {d : Dv} {v : V} (h : Rp K g d v) : ∀ {fs : List (Str × Dv)} {vs : List (Str × V)}, Rpf K g fs vs → Rpf K g (putFD f d fs) (putF f v vs)
  | _, _, .nil => .cons h .nil
  | _, _, .cons (q := q) h1 r => by
    unfold putFD putF
    by_cases z : q = f
    · rw [if_pos z, if_pos z]
      exact .cons h r
    · rw [if_neg z, if_neg z]
      exact .cons h1 (Rpf.put h r)
/-- an attribute of the instance at a place -/
def insAt (s : S) (C : Addr) (d : Dv) (k : Nat → List (Str × Dv) → Prop) : Prop := match d with
  | .obj n => match s.st[n]? with
    | some (.ins C' fs) => C' = C ∧ k n fs
    | _ => False
  | _ => False
theorem ins_ok {C : Addr} {d : Dv} {v : V} {k : Nat → List (Str × Dv) → Prop} (r : Rel K g0 g σ s) (h : Rp K g d v) (q : insAt s C d k) :
    ∃ n a dx fs vs, v = .ref a ∧ g.α[n]? = some a ∧ g.c a = 1 ∧ s.st[n]? = some (.ins C fs) ∧ g.H a = some (.ins C dx vs) ∧ Rpf K g fs vs ∧ k n fs := by
  unfold insAt at q
  split at q
  · rename_i n
    split at q
    · rename_i C' fs hs
      obtain ⟨rfl, q⟩ := q
      cases h with
      | obj ha =>
      obtain ⟨a, e1, e2, dx, vs, hH, rf⟩ := r.ce n _ hs
      rw [ha] at e1
      cases e1
      exact ⟨n, _, dx, fs, vs, rfl, ha, e2, hs, hH, rf, q⟩
    · exact q.elim
  · exact q.elim
def vFld (C : Addr) (f : Str) (t : VT) : VT := fun R s Q => t R s fun x s => insAt s C x.d fun _ fs => match lookF f fs with
  | some d => Q (.fz d) s
  | none => False
theorem ve_fld {C : Addr} {f : Str} (hC : Cls X.K C) (hn : NoAttr X.K C f) (h : VE X W e t) (hb : attributeBase e f X.env (eval e X.env) = eval e X.env := by rfl) : VE X W (.Attribute e f pos) (vFld C f t) := by
  intro g0 g σ s R Q QV r cv k q
  refine peu (pe_fld pe_u hb) (h.fz (Q := fun x s => insAt s C x fun _ fs => match lookF f fs with | some d => Q (.fz d) s | none => False) r cv (fun g' s' v d r' ex rp q' => ?_) q)
  obtain ⟨n, a, dx, fs, vs, rfl, ha, hc, hs, hH, rf, q2⟩ := ins_ok r' rp q'
  split at q2
  · rename_i d hd
    obtain ⟨w, e1, rw'⟩ := rf.look hd
    exact ⟨a, C, dx, vs, w, rfl, hH, hC, hn, e1, k g' s' w (.fz d) r' ex rw' q2⟩
  · exact q2.elim
def sFldV (C : Addr) (f : Str) (t to : VT) : VTS := fun R s Q => t R s fun y s => to R s fun x s => insAt s C x.d fun n fs => fs.length < 1000 ∧ Q .nx (s.cell n (.ins C (putFD f y.d fs)))
theorem vs_fld {C : Addr} {f : Str} {pos' : Pos} {to : VT} (hC : Cls X.K C) (hn : NoAttr X.K C f) (hv : VE X W e t) (ho : VE X W o to) (hs : swapsWith e (some (.Attribute o f pos')) pos.line X.env = pure false := by rfl) :
    VS X W (.Assign [.Attribute o f pos'] e pos) (sFldV C f t to) := by
  intro g0 g σ s R Q D r cv k q
  refine psu (ps_fld pe_u pe_u hs) ?_
  refine hv.fz (Q := fun y s => to R s fun x s => insAt s C x.d fun n fs => fs.length < 1000 ∧ Q .nx (s.cell n (.ins C (putFD f y fs)))) r cv (fun g1 s1 v y r1 ex1 ry q1 => ?_) q
  refine ho.fz (Q := fun x s => insAt s C x fun n fs => fs.length < 1000 ∧ Q .nx (s.cell n (.ins C (putFD f y fs)))) r1 (cv.ext ex1) (fun g2 s2 u x r2 ex2 rx q2 => ?_) q1
  obtain ⟨n, a, dx, fs, vs, rfl, ha, hc, hs, hH, rf, hl, q3⟩ := ins_ok r2 rx q2
  refine ⟨a, C, dx, vs, rfl, hH, hC, hn, by rw [← rf.len]; exact hl, ?_⟩
  have ex3 : Ext g2 (g2.wr a (.ins C dx (putF f v vs))) := ext_wr (.inl hc)
  obtain ⟨r3, _⟩ := r2.wrCell (o := .ins C dx (putF f v vs)) (cl := .ins C (putFD f y fs)) ha ⟨dx, _, upd_same, (rf.put (ry.ext ex2)).ext ex3⟩
  exact k.nx _ σ _ r3 ((ex1.trans ex2).trans ex3) q3
/-- o.f op= e -/
def sFldA (C : Addr) (f : Str) (F : Dv → Dv → (Sl → Prop) → Prop) (to t : VT) : VTS := fun R s Q => to R s fun x s => insAt s C x.d fun _ fs => match lookF f fs with
  | some d => t R s fun y s => F d y.d fun z => insAt s C x.d fun n fs => fs.length < 1000 ∧ Q .nx (s.cell n (.ins C (putFD f z.d fs)))
  | none => False
end
end VL

/-! V6: loops and comprehensions. -/
namespace VL
open PySem PySem.Spec PyProof.Rows L2
def uI (X : Cx) (tg iter : Expr) : TI := fun σ H R => ∀ (pins : List (Addr × Obj)) (s : Shared), Inv X pins σ H s →
    wpAny (model X.prog X.w) X.A (eval iter X.env) (fun v s1 => wpAny (model X.prog X.w) X.A (pyIter v) (PIE X pins σ tg R) X.xe s1) X.xe s
theorem pi_u {X : Cx} {tg iter : Expr} : PI X tg iter (uI X tg iter) := ⟨fun pins s σ H R I h => h pins s I⟩
theorem piu {X : Cx} {tg iter : Expr} {t : TI} {σ : L2.St} {H : Hp} {R : It → Hp → Prop} (h : PI X tg iter t) (q : t σ H R) : uI X tg iter σ H R := fun pins s I => h.run pins s σ H R I q
/-- the iterator J gives these items, while chk holds -/
def ItOk (K : PySem.W.Frag) (g0 gI : Mo) (items : List Dv) (chk : S → Prop) (J : It) : Prop := ∀ g σ s (i : Nat), Rel K g0 g σ s → Ext gI g → chk s → i ≤ items.length →
  (i = items.length → J.stop i g.H) ∧ ∀ d, items[i]? = some d → J.go i g.H ∧ ∀ x H', J.yld i g.H x H' → ∃ g', g'.H = H' ∧ Rel K g0 g' σ s ∧ Ext g g' ∧ Rp K g' d x
abbrev VTI := RK → S → (List Dv → (S → Prop) → S → Prop) → Prop
def VI (X : Cx) (W : WX) (tg iter : Expr) (t : VTI) : Prop := ∀ g0 g σ s R Q QI, Rel X.K g0 g σ s → Cov X.K g0 g W R →
  (∀ g' s' items chk J, Rel X.K g0 g' σ s' → Ext g g' → ItOk X.K g0 g' items chk J → Q items chk s' → QI J g'.H) → t R s Q → uI X tg iter σ g.H QI
section
variable {X : Cx} {W : WX} {e a b c o tg iter elt : Expr} {es rest ifs : List Expr} {ta tb tc t : VT} {tp : VTP} {tr : VTA} {g0 g g' : Mo} {σ : L2.St} {s : S} {R : RK} {pos : Pos} {x : Str} {p cpos apos tpos : Pos} {st : Stmt} {sts : List Stmt} {K : PySem.W.Frag}
theorem Ext0.trans {g'' : Mo} (x : Ext0 g g') (y : Ext0 g' g'') : Ext0 g g'' where
  fz := fun b o h n => by
    obtain ⟨n', o', h', e⟩ := x.fz b o h n
    obtain ⟨n2, o2, h2, e2⟩ := y.fz b o' h' n'
    exact ⟨n2, o2, h2, e.trans e2⟩
  al := by
    obtain ⟨t, e⟩ := x.al
    obtain ⟨u, e'⟩ := y.al
    exact ⟨t ++ u, by rw [e', e, List.append_assoc]⟩
/-! ### what is walked -/
def iLst (t : VT) : VTI := fun R s Q => t R s fun x s => match x.d with
  | .lst ds => Q ds (fun _ => True) s
  | .obj n => match s.st[n]? with
    | some (.bd (.lst ds)) => Q ds (fun s' => s'.st[n]? = some (.bd (.lst ds))) s
    | _ => False
  | _ => False
theorem it_list {gI : Mo} {items : List Dv} {chk : S → Prop} {a : Addr} (h : ∀ g σ s, Rel K g0 g σ s → Ext gI g → chk s → ∃ vs, g.H a = some (.lst vs) ∧ Rps K g items vs) : ItOk K g0 gI items chk (Itl K a) := by
  intro g σ s i r ex ck hi
  obtain ⟨vs, hH, rs⟩ := h g σ s r ex ck
  refine ⟨fun e => ⟨vs, SqL.of hH, by rw [← rs.len]; omega⟩, fun d hd => ?_⟩
  obtain ⟨v, hv, rp⟩ := rs.get hd
  refine ⟨⟨vs, v, SqL.of hH, hv⟩, fun y H' q => ?_⟩
  obtain ⟨rfl, q⟩ := q
  have e := q vs (SqL.of hH)
  rw [hv] at e
  cases e
  exact ⟨g, rfl, r, Ext.refl, rp⟩
theorem vi_list (h : VE X W iter t) : VI X W tg iter (iLst t) := by
  intro g0 g σ s R Q QI r cv k q
  refine piu (pi_list pe_u) (h.fz (Q := fun x s => match x with | .lst ds => Q ds (fun _ => True) s | .obj n => (match s.st[n]? with | some (.bd (.lst ds)) => Q ds (fun s' => s'.st[n]? = some (.bd (.lst ds))) s | _ => False) | _ => False) r cv (fun g1 s1 v x r1 ex1 rp q1 => ?_) q)
  dsimp only at q1
  split at q1
  · cases rp with
    | lst hH rs =>
    refine ⟨_, rfl, ⟨_, SqL.of hH.2⟩, k g1 s1 _ _ _ r1 ex1 (it_list fun g2 σ2 s2 r2 ex2 _ => ⟨_, (hH.ext ex2).2, rs.ext ex2⟩) q1⟩
  · rename_i n
    split at q1
    · rename_i ds hs
      cases rp with
      | obj ha =>
      have at' : ∀ g2 σ2 s2, Rel X.K g0 g2 σ2 s2 → Ext g1 g2 → s2.st[n]? = some (.bd (.lst ds)) → ∃ vs, g2.H _ = some (.lst vs) ∧ Rps X.K g2 ds vs := fun g2 σ2 s2 r2 ex2 hs2 => by
        obtain ⟨a, e1, _, us, e2, e3⟩ := r2.ce n _ hs2
        rw [ex2.at ha] at e1
        cases e1
        exact ⟨us, e2, e3⟩
      obtain ⟨vs, hH, _⟩ := at' g1 σ s1 r1 Ext.refl hs
      exact ⟨_, rfl, ⟨_, SqL.of hH⟩, k g1 s1 _ _ _ r1 ex1 (it_list at') q1⟩
    · exact q1.elim
  · exact q1.elim
def iTpl (t : VT) : VTI := fun R s Q => t R s fun x s => match x.d with
  | .tup ds => Q ds (fun _ => True) s
  | _ => False
theorem vi_tup (h : VE X W iter t) : VI X W tg iter (iTpl t) := by
  intro g0 g σ s R Q QI r cv k q
  refine piu (pi_tup pe_u) (h.fz (Q := fun x s => match x with | .tup ds => Q ds (fun _ => True) s | _ => False) r cv (fun g1 s1 v x r1 ex1 rp q1 => ?_) q)
  dsimp only at q1
  split at q1
  · cases rp with
    | @tup a _ us hH rs =>
    refine ⟨_, rfl, ⟨_, hH.sq⟩, k g1 s1 _ _ _ r1 ex1 ?_ q1⟩
    intro g2 σ2 s2 i r2 ex2 _ hi
    have hH2 := (hH.ext ex2).sq
    have rs2 := rs.ext ex2
    refine ⟨fun e => ⟨us, hH2, by rw [← rs.len]; omega⟩, fun d hd => ?_⟩
    obtain ⟨v, hv, rp⟩ := rs2.get hd
    refine ⟨⟨us, v, hH2, hv⟩, fun y H' q => ?_⟩
    obtain ⟨rfl, q⟩ := q
    have e := q us hH2
    rw [hv] at e
    cases e
    exact ⟨g2, rfl, r2, Ext.refl, rp⟩
  · exact q1.elim
def signs (z : Str) : List Dv := z.cps.toList.map fun c => .str ⟨#[c]⟩
def iSgn (t : VT) : VTI := fun R s Q => t R s fun x s => match x.d with
  | .str z => Q (signs z) (fun _ => True) s
  | _ => False
theorem vi_str (h : VE X W iter t) : VI X W tg iter (iSgn t) := by
  intro g0 g σ s R Q QI r cv k q
  refine piu (pi_str pe_u) (h.fz (Q := fun x s => match x with | .str z => Q (signs z) (fun _ => True) s | _ => False) r cv (fun g1 s1 v x r1 ex1 rp q1 => ?_) q)
  dsimp only at q1
  split at q1
  · rename_i z
    cases rp
    refine ⟨z, rfl, k g1 s1 _ _ _ r1 ex1 ?_ q1⟩
    intro g2 σ2 s2 i r2 ex2 _ hi
    have hl : (signs z).length = z.cps.size := by unfold signs; simp
    refine ⟨fun e => by show z.cps.size ≤ i; omega, fun d hd => ?_⟩
    unfold signs at hd
    rw [List.getElem?_map] at hd
    cases hc : z.cps.toList[i]? with
    | none => rw [hc] at hd; cases hd
    | some c =>
      rw [hc] at hd
      cases hd
      have hc' : z.cps[i]? = some c := by simpa using hc
      refine ⟨(Array.getElem?_eq_some_iff.mp hc').1, fun y H' q => ?_⟩
      obtain ⟨rfl, c', e1, rfl⟩ := q
      rw [hc'] at e1
      cases e1
      exact ⟨g2, rfl, r2, Ext.refl, Rp.str _⟩
  · exact q1.elim
def rangeD (lo : Int) (n : Nat) : List Dv := (List.range n).map fun i : Nat => .int (lo + i)
theorem it_rng {gI : Mo} {lo : Int} {n : Nat} {chk : S → Prop} : ItOk K g0 gI (rangeD lo n) chk (Itr lo n) := by
  intro g σ s i r ex ck hi
  have hl : (rangeD lo n).length = n := by unfold rangeD; simp
  refine ⟨fun e => by show n ≤ i; omega, fun d hd => ?_⟩
  have hin : i < n := by
    have := (List.getElem?_eq_some_iff.mp hd).1
    omega
  refine ⟨hin, fun y H' q => ?_⟩
  obtain ⟨rfl, rfl⟩ := q
  unfold rangeD at hd
  rw [List.getElem?_map, List.getElem?_range hin] at hd
  cases hd
  exact ⟨g, rfl, r, Ext.refl, Rp.int _⟩
def iRg1 (tr : VTA) : VTI := fun R s Q => tr R s fun ds s => match ds with
  | [.int j] => -(2 ^ 62) ≤ j ∧ j < 2 ^ 62 ∧ Q (rangeD 0 j.toNat) (fun _ => True) s
  | _ => False
theorem vi_range1 (hg : Gl X "range") (hm : X.mg "range" = none) (h : VA X W [a] tr) (hs : starEach [a] X.env = [(false, eval a X.env)] := by rfl) : VI X W tg (.Call (.Name "range" p) [a] [] pos) (iRg1 tr) := by
  intro g0 g σ s R Q QI r cv k q
  refine piu (pi_range1 hg hm pa_u hs) (h g0 g σ s R _ _ r cv (fun g1 s1 vs ds r1 ex1 rs q1 => ?_) q)
  split at q1
  · cases rs with
    | cons h1 rs =>
    cases rs; cases h1
    exact ⟨_, rfl, q1.1, q1.2.1, k g1 s1 _ _ _ r1 ex1 it_rng q1.2.2⟩
  · exact q1.elim
def iRg2 (tr : VTA) : VTI := fun R s Q => tr R s fun ds s => match ds with
  | [.int i, .int j] => (-(2 ^ 62) ≤ i ∧ i < 2 ^ 62 ∧ -(2 ^ 62) ≤ j ∧ j < 2 ^ 62) ∧ Q (rangeD i (j - i).toNat) (fun _ => True) s
  | _ => False
theorem vi_range2 (hg : Gl X "range") (hm : X.mg "range" = none) (h : VA X W [a, b] tr) (hs : starEach [a, b] X.env = [(false, eval a X.env), (false, eval b X.env)] := by rfl) (hs2 : starEach [b] X.env = [(false, eval b X.env)] := by rfl) :
    VI X W tg (.Call (.Name "range" p) [a, b] [] pos) (iRg2 tr) := by
  intro g0 g σ s R Q QI r cv k q
  refine piu (pi_range2 hg hm pa_u hs hs2) (h g0 g σ s R _ _ r cv (fun g1 s1 vs ds r1 ex1 rs q1 => ?_) q)
  split at q1
  · cases rs with
    | cons h1 rs =>
    cases rs with
    | cons h2 rs =>
    cases rs; cases h1; cases h2
    exact ⟨_, _, rfl, q1.1, k g1 s1 _ _ _ r1 ex1 it_rng q1.2⟩
  · exact q1.elim
/-- a new tuple that an iterator hands out -/
theorem yld_tup {T : Addr} {ds : List Dv} {vs : List V} (r : Rel K g0 g σ s) (h : g.H T = none) (rs : Rps K g ds vs) : ∃ g', g'.H = upd g.H T (.tup vs) ∧ Rel K g0 g' σ s ∧ Ext g g' ∧ Rp K g' (.tup ds) (.ref T) := by
  obtain ⟨r1, e1, t1⟩ := new_tup r h rs
  exact ⟨_, rfl, r1, e1, t1⟩
def enumD (ds : List Dv) : List Dv := ds.zipIdx.map fun q => .tup [.int (q.2 : Nat), q.1]
def iEnm (tr : VTA) : VTI := fun R s Q => tr R s fun ds s => match ds with
  | [.lst xs] => Q (enumD xs) (fun _ => True) s
  | _ => False
theorem vi_enum {elts : List Expr} {kk : Nat} (hg : Gl X "enumerate") (hm : X.mg "enumerate" = none) (h : VA X W [e] tr) (hs : starEach [e] X.env = [(false, eval e X.env)] := by rfl) :
    VI X W (.Tuple elts kk tpos) (.Call (.Name "enumerate" p) [e] [] pos) (iEnm tr) := by
  intro g0 g σ s R Q QI r cv k q
  refine piu (pi_enum hg hm pa_u hs) (h g0 g σ s R _ _ r cv (fun g1 s1 vs ds r1 ex1 rs q1 => ?_) q)
  split at q1
  · rename_i xs
    cases rs with
    | cons h1 rs =>
    cases rs
    cases h1 with
    | @lst a _ us hH ru =>
    refine ⟨a, us, rfl, SqL.of hH.2, k g1 s1 _ _ _ r1 ex1 ?_ q1⟩
    intro g2 σ2 s2 i r2 ex2 _ hi
    have hH2 : SqL X.K g2.H a us := SqL.of (hH.ext ex2).2
    have ru2 := ru.ext ex2
    have hl : (enumD xs).length = xs.length := by unfold enumD; simp
    refine ⟨fun e => ⟨us, hH2, by rw [← ru.len]; omega⟩, fun d hd => ?_⟩
    unfold enumD at hd
    rw [List.getElem?_map, List.getElem?_zipIdx] at hd
    cases hx : xs[i]? with
    | none => rw [hx] at hd; cases hd
    | some y =>
      rw [hx] at hd
      have e0 : 0 + i = i := by omega
      simp only [Option.map_some, e0] at hd
      cases hd
      obtain ⟨v, hv, rp⟩ := ru2.get hx
      refine ⟨⟨us, v, hH2, hv⟩, fun z H' q => ?_⟩
      obtain ⟨T, w, rfl, hT, rfl, hw⟩ := q
      have e := hw us hH2
      rw [hv] at e
      cases e
      exact yld_tup r2 hT (.cons (.int _) (.one rp))
  · exact q1.elim
def zipD (xs ys : List Dv) : List Dv := (xs.zip ys).map fun q => .tup [q.1, q.2]
def iZpp (tr : VTA) : VTI := fun R s Q => tr R s fun ds s => match ds with
  | [.lst xs, .lst ys] => Q (zipD xs ys) (fun _ => True) s
  | _ => False
theorem vi_zip {elts : List Expr} {kk : Nat} (hg : Gl X "zip") (hm : X.mg "zip" = none) (h : VA X W [a, b] tr) (hs : starEach [a, b] X.env = (false, eval a X.env) :: starEach [b] X.env := by rfl) (hpl : (backTo pos (starEach [b] X.env)).any (·.1) = false := by rfl) :
    VI X W (.Tuple elts kk tpos) (.Call (.Name "zip" p) [a, b] [] pos) (iZpp tr) := by
  intro g0 g σ s R Q QI r cv k q
  refine piu (pi_zip hg hm pa_u hs hpl) (h g0 g σ s R _ _ r cv (fun g1 s1 vs ds r1 ex1 rs q1 => ?_) q)
  split at q1
  · rename_i xs ys
    cases rs with
    | cons h1 rs =>
    cases rs with
    | cons h2 rs =>
    cases rs
    cases h1 with
    | @lst a _ us hH ru =>
    cases h2 with
    | @lst b _ ws hH' rw' =>
    refine ⟨a, b, us, ws, rfl, SqL.of hH.2, SqL.of hH'.2, k g1 s1 _ _ _ r1 ex1 ?_ q1⟩
    intro g2 σ2 s2 i r2 ex2 _ hi
    have hA : SqL X.K g2.H a us := SqL.of (hH.ext ex2).2
    have hB : SqL X.K g2.H b ws := SqL.of (hH'.ext ex2).2
    have ru2 := ru.ext ex2
    have rw2 := rw'.ext ex2
    have hl : (zipD xs ys).length = min xs.length ys.length := by unfold zipD; simp
    refine ⟨fun e => ⟨us, ws, hA, hB, by rw [← ru.len, ← rw'.len]; omega⟩, fun d hd => ?_⟩
    have hlt := (List.getElem?_eq_some_iff.mp hd).1
    rw [hl] at hlt
    have hx : xs[i]? = some (xs[i]'(by omega)) := List.getElem?_eq_getElem (by omega)
    have hy : ys[i]? = some (ys[i]'(by omega)) := List.getElem?_eq_getElem (by omega)
    unfold zipD at hd
    have hz : (xs.zip ys)[i]? = some (xs[i]'(by omega), ys[i]'(by omega)) := List.getElem?_zip_eq_some.mpr ⟨hx, hy⟩
    rw [List.getElem?_map, hz] at hd
    cases hd
    obtain ⟨v, hv, rp⟩ := ru2.get hx
    obtain ⟨w, hw, rq⟩ := rw2.get hy
    refine ⟨⟨us, ws, v, w, hA, hB, hv, hw⟩, fun z H' q => ?_⟩
    obtain ⟨T, v', w', rfl, hT, rfl, h1, h2⟩ := q
    have e1 := h1 us hA
    rw [hv] at e1
    cases e1
    have e2 := h2 ws hB
    rw [hw] at e2
    cases e2
    exact yld_tup r2 hT (.cons rp (.one rq))
  · exact q1.elim
def iZpt (tr : VTA) : VTI := fun R s Q => tr R s fun ds s => match ds with
  | [.tup xs, .tup ys] => Q (zipD xs ys) (fun _ => True) s
  | _ => False
theorem vi_zipT {elts : List Expr} {kk : Nat} (hg : Gl X "zip") (hm : X.mg "zip" = none) (h : VA X W [a, b] tr) (hs : starEach [a, b] X.env = (false, eval a X.env) :: starEach [b] X.env := by rfl) (hpl : (backTo pos (starEach [b] X.env)).any (·.1) = false := by rfl) :
    VI X W (.Tuple elts kk tpos) (.Call (.Name "zip" p) [a, b] [] pos) (iZpt tr) := by
  intro g0 g σ s R Q QI r cv k q
  refine piu (RZ.pi_zipA hg hm pa_u hs hpl) (h g0 g σ s R _ _ r cv (fun g1 s1 vs ds r1 ex1 rs q1 => ?_) q)
  split at q1
  · rename_i xs ys
    cases rs with
    | cons h1 rs =>
    cases rs with
    | cons h2 rs =>
    cases rs
    cases h1 with
    | @tup a _ us hH ru =>
    cases h2 with
    | @tup b _ ws hH' rw' =>
    refine ⟨a, b, us, ws, rfl, .inr ⟨hH.sq, hH'.sq, k g1 s1 _ _ _ r1 ex1 ?_ q1⟩⟩
    intro g2 σ2 s2 i r2 ex2 _ hi
    have hA : SqT X.K g2.H a us := (hH.ext ex2).sq
    have hB : SqT X.K g2.H b ws := (hH'.ext ex2).sq
    have ru2 := ru.ext ex2
    have rw2 := rw'.ext ex2
    have hl : (zipD xs ys).length = min xs.length ys.length := by unfold zipD; simp
    refine ⟨fun e => ⟨us, ws, hA, hB, by rw [← ru.len, ← rw'.len]; omega⟩, fun d hd => ?_⟩
    have hlt := (List.getElem?_eq_some_iff.mp hd).1
    rw [hl] at hlt
    have hx : xs[i]? = some (xs[i]'(by omega)) := List.getElem?_eq_getElem (by omega)
    have hy : ys[i]? = some (ys[i]'(by omega)) := List.getElem?_eq_getElem (by omega)
    unfold zipD at hd
    have hz : (xs.zip ys)[i]? = some (xs[i]'(by omega), ys[i]'(by omega)) := List.getElem?_zip_eq_some.mpr ⟨hx, hy⟩
    rw [List.getElem?_map, hz] at hd
    cases hd
    obtain ⟨v, hv, rp⟩ := ru2.get hx
    obtain ⟨w, hw, rq⟩ := rw2.get hy
    refine ⟨⟨us, ws, v, w, hA, hB, hv, hw⟩, fun z H' q => ?_⟩
    obtain ⟨T, v', w', rfl, hT, rfl, h1, h2⟩ := q
    have e1 := h1 us hA
    rw [hv] at e1
    cases e1
    have e2 := h2 ws hB
    rw [hw] at e2
    cases e2
    exact yld_tup r2 hT (.cons rp (.one rq))
  · exact q1.elim
/-! ### for -/
def forV (chk : S → Prop) (tg : VTG) (body : VTS) (R : RK) (Q : Fl → S → Prop) : List Dv → S → Prop
  | [], s => chk s ∧ Q .nx s
  | d :: ds, s => chk s ∧ tg (.fz d) s fun s => body R s fun f s => match f with
    | .nx => forV chk tg body R Q ds s
    | .ct => forV chk tg body R Q ds s
    | .bk => Q .nx s
    | .rt x => Q (.rt x) s
def sFor (it : VTI) (tg : VTG) (body : VTS) : VTS := fun R s Q => it R s fun items chk s => forV chk tg body R Q items s
/-- the turns -/
theorem for_core {u : VTG} {body : VTS} {gI : Mo} {sI : S} {σ : L2.St} {items : List Dv} {chk : S → Prop} {J : It} {Q : Fl → S → Prop} {D : Ends} (hg : VG X tg u) (hb : VSs X W sts body) (cv : Cov X.K g0 gI W R) (k : CkS X.K g0 gI Q D) (rI : Rel X.K g0 gI σ sI)
    (ok : ItOk X.K g0 gI items chk J) (qI : forV chk u body R Q items sI) : ∃ W : Nat → Nat → L2.St → Hp → Prop, (∃ m, W 0 m σ gI.H) ∧ ∀ i m σ H, W i m σ H →
      (J.stop i H ∧ D.nx σ H) ∨ (J.go i H ∧ ∃ N : L2.St → Hp → Prop, (∀ σ' H', N σ' H' → ∃ m', m' < m ∧ W (i + 1) m' σ' H') ∧ ∀ x H', J.yld i H x H' → uG X tg x σ H' fun σ2 H2 => uSs X sts { D with nx := N, ct := N, bk := D.nx } σ2 H2) := by
  refine ⟨fun i m σ H => m = items.length - i ∧ i ≤ items.length ∧ ∃ g s, g.H = H ∧ Rel X.K g0 g σ s ∧ Ext gI g ∧ forV chk u body R Q (items.drop i) s, ⟨items.length, by omega, Nat.zero_le _, gI, sI, rfl, rI, Ext.refl, qI⟩, ?_⟩
  rintro i m σ H ⟨rfl, hi, g1, s1, rfl, r1, ex1, q1⟩
  by_cases hlt : i < items.length
  · have e : items[i]? = some items[i] := List.getElem?_eq_getElem hlt
    have e2 : items.drop i = items[i] :: items.drop (i + 1) := List.drop_eq_getElem_cons hlt
    rw [e2] at q1
    obtain ⟨hck, q1⟩ := q1
    obtain ⟨_, ho⟩ := ok g1 σ s1 i r1 ex1 hck hi
    obtain ⟨hgo, hy⟩ := ho _ e
    refine .inr ⟨hgo, fun σ' H' => i + 1 ≤ items.length ∧ ∃ g s, g.H = H' ∧ Rel X.K g0 g σ' s ∧ Ext gI g ∧ forV chk u body R Q (items.drop (i + 1)) s, fun σ' H' h => ⟨items.length - (i + 1), by omega, rfl, h⟩, fun x H' y => ?_⟩
    obtain ⟨g2, rfl, r2, ex2, rp⟩ := hy x H' y
    refine hg g0 g2 σ s1 x (.fz items[i]) _ _ r2 rp (fun g3 σ3 s3 r3 ex3 q3 => ?_) q1
    have ex13 : Ext gI g3 := (ex1.trans ex2).trans ex3
    refine hb g0 g3 σ3 s3 R _ _ r3 (cv.ext ex13) ⟨fun g4 σ4 s4 r4 ex4 q4 => ?_, fun g4 σ4 s4 r4 ex4 q4 => ?_, fun g4 σ4 s4 r4 ex4 q4 => ?_, fun g4 σ4 s4 v y r4 ex4 tm q4 => ?_⟩ q3
    · exact ⟨hlt, g4, s4, rfl, r4, ex13.trans ex4, q4⟩
    · exact k.nx g4 σ4 s4 r4 (ex13.trans ex4) q4
    · exact ⟨hlt, g4, s4, rfl, r4, ex13.trans ex4, q4⟩
    · exact k.rt g4 σ4 s4 v y r4 (ex13.trans ex4) tm q4
  · have e : i = items.length := by omega
    subst e
    rw [List.drop_length] at q1
    obtain ⟨hck, q1⟩ := q1
    obtain ⟨hstop, _⟩ := ok g1 σ s1 _ r1 ex1 hck hi
    exact .inl ⟨hstop rfl, k.nx g1 σ s1 r1 ex1 q1⟩
theorem vs_for {it : VTI} {u : VTG} {body : VTS} (hp : PassesOwn (model X.prog X.w) X.A X.env X.xe) (hc : X.calm = true) (hi : VI X W tg iter it) (hg : VG X tg u) (hb : VSs X W sts body)
    (hs : ∀ x, foldedSetIterable iter X.env x = pure x := by intro _; rfl) : VS X W (.For tg iter sts [] pos) (sFor it u body) := by
  intro g0 g σ s R Q D r cv k q
  refine psu (ps_for hp hc pi_u pg_u pss_u hs) (hi g0 g σ s R _ _ r cv (fun gI sI items chk J rI exI ok qI => ?_) q)
  exact for_core hg hb (cv.ext exI) (k.ext exI) rI ok qI
/-! ### while -/
def sWhile (tc : VTC) (body : VTS) : VTS := fun R s Q => ∃ Iv : Nat → S → Prop, (∃ m, Iv m s) ∧ ∀ m s, Iv m s → tc R s fun b s => br b (body R s (fun f s => match f with
    | .nx => ∃ m', m' < m ∧ Iv m' s
    | .ct => ∃ m', m' < m ∧ Iv m' s
    | .bk => Q .nx s
    | .rt x => Q (.rt x) s)) (Q .nx s)
theorem vs_while {tc : VTC} {body : VTS} (hp : PassesOwn (model X.prog X.w) X.A X.env X.xe) (hc : VC X W c tc) (hb : VSs X W sts body) : VS X W (.While c sts [] pos) (sWhile tc body) := by
  intro g0 g σ s R Q D r cv k q
  obtain ⟨Iv, ⟨m0, h0⟩, turn⟩ := q
  refine psu (ps_while hp pt_u pss_u) ⟨fun m σ H => ∃ g' s, g'.H = H ∧ Rel X.K g0 g' σ s ∧ Ext g g' ∧ Iv m s, ⟨m0, g, s, rfl, r, Ext.refl, h0⟩, ?_⟩
  rintro m σ1 H ⟨g1, s1, rfl, r1, ex1, h1⟩
  refine hc g0 g1 σ1 s1 R _ _ r1 (cv.ext ex1) (fun g2 s2 b r2 ex2 q2 => ?_) (turn m s1 h1)
  cases b with
  | true =>
    rw [if_pos rfl]
    have q2 := br_t q2
    refine ⟨fun σ' H' => ∃ m', m' < m ∧ ∃ g' s, g'.H = H' ∧ Rel X.K g0 g' σ' s ∧ Ext g g' ∧ Iv m' s, fun σ' H' h => h, ?_⟩
    have ex12 := ex1.trans ex2
    refine hb g0 g2 σ1 s2 R _ _ r2 (cv.ext ex12) ⟨fun g4 σ4 s4 r4 ex4 q4 => ?_, fun g4 σ4 s4 r4 ex4 q4 => ?_, fun g4 σ4 s4 r4 ex4 q4 => ?_, fun g4 σ4 s4 v y r4 ex4 tm q4 => ?_⟩ q2
    · obtain ⟨m', hm, h4⟩ := q4
      exact ⟨m', hm, g4, s4, rfl, r4, ex12.trans ex4, h4⟩
    · exact k.nx g4 σ4 s4 r4 (ex12.trans ex4) q4
    · obtain ⟨m', hm, h4⟩ := q4
      exact ⟨m', hm, g4, s4, rfl, r4, ex12.trans ex4, h4⟩
    · exact k.rt g4 σ4 s4 v y r4 (ex12.trans ex4) tm q4
  | false =>
    rw [if_neg Bool.false_ne_true]
    have q2 := br_f q2
    exact k.nx g2 σ1 s2 r2 (ex1.trans ex2) q2
end
end VL

/-! V7: comprehensions. -/
namespace VL
open PySem PySem.Spec PyProof.Rows L2
/-- the target of a comprehension: a name, or a tuple of names -/
inductive CT where
  | nm (i : Nat) | tu (is : List Nat)
def gNames : List Nat → TGs
  | [] => gNil
  | i :: is => gCons (gName i) (gNames is)
def CT.g (K : PySem.W.Frag) : CT → TG
  | .nm i => gName i
  | .tu is => gTup K is.length (gNames is)
def CT.ix : CT → List Nat
  | .nm i => [i]
  | .tu is => is
def putAll : List Nat → List Dv → S → S
  | i :: is, d :: ds, s => putAll is ds (s.put i (.fz d))
  | _, _, s => s
def CT.v : CT → Dv → S → (S → Prop) → Prop
  | .nm i, d, s, Q => Q (s.put i (.fz d))
  | .tu is, .tup ds, s, Q => ds.length = is.length ∧ Q (putAll is ds s)
  | _, _, _, _ => False
def wipeR (ρ : List Sl) : List Nat → List Sl
  | [] => ρ
  | v :: vs => (wipeR ρ vs).set v .un
def S.wipe (s : S) (vs : List Nat) : S := { s with ρ := wipeR s.ρ vs }
/-- the block's own names as they were ahead of it -/
def restR (ρ0 ρ : List Sl) : List Nat → List Sl
  | [] => ρ
  | v :: vs => (restR ρ0 ρ vs).set v (match ρ0[v]? with | some (.fz d) => .fz d | _ => .un)
def S.rest (s : S) (ρ0 : List Sl) (vs : List Nat) : S := { s with ρ := restR ρ0 s.ρ vs }
def R0 : RK := fun _ _ => False
def W0 : WX := fun _ _ _ _ => False
def cYes : VTC := fun _ s Q => Q true s
def compV (vs : List Nat) (chk : S → Prop) (ct : CT) (tt : VTC) (te : VT) (Q : List Dv → S → Prop) : List Dv → List Dv → S → Prop
  | [], acc, s => chk s ∧ Q acc s
  | d :: ds, acc, s => chk s ∧ ct.v d s fun s => tt R0 s fun b s => br b (te R0 s fun x s => acc.length < sizeLine ∧ compV vs chk ct tt te Q ds (acc ++ [x.d]) (s.wipe vs)) (compV vs chk ct tt te Q ds acc (s.wipe vs))
def vComp (vs : List Nat) (it : VTI) (ct : CT) (tt : VTC) (te : VT) : VT := fun R s Q => it R s fun items chk s => compV vs chk ct tt te (fun acc s' => Q (.ow (.lst acc)) (s'.rest s.ρ vs)) items [] (s.wipe vs)
section
variable {X : Cx} {W : WX} {e a b c o tg iter elt : Expr} {es rest ifs : List Expr} {ta tb tc t : VT} {tp : VTP} {tr : VTA} {g0 g g' : Mo} {σ : L2.St} {s : S} {R : RK} {pos : Pos} {x : Str} {p cpos apos tpos : Pos} {st : Stmt} {sts : List Stmt} {K : PySem.W.Frag}
/-! ### wiping -/
theorem wipeR_length (ρ : List Sl) : ∀ vs : List Nat, (wipeR ρ vs).length = ρ.length
  | [] => rfl
  | v :: vs => by unfold wipeR; rw [List.length_set, wipeR_length ρ vs]
theorem restR_length (ρ0 ρ : List Sl) : ∀ vs : List Nat, (restR ρ0 ρ vs).length = ρ.length
  | [] => rfl
  | v :: vs => by unfold restR; rw [List.length_set, restR_length ρ0 ρ vs]
theorem wipeR_get {ρ : List Sl} {i : Nat} {x : Sl} : ∀ {vs : List Nat}, (wipeR ρ vs)[i]? = some x → x = .un ∨ (ρ[i]? = some x ∧ i ∉ vs)
  | [], h => .inr ⟨h, by simp⟩
  | v :: vs, h => by
    unfold wipeR at h
    by_cases z : v = i
    · subst z
      have hv : v < (wipeR ρ vs).length := by
        have := (List.getElem?_eq_some_iff.mp h).1
        rw [List.length_set] at this
        exact this
      rw [List.getElem?_set_self hv] at h
      cases h
      exact .inl rfl
    · rw [List.getElem?_set_ne z] at h
      rcases wipeR_get h with q | ⟨q1, q2⟩
      · exact .inl q
      · exact .inr ⟨q1, by simp only [List.mem_cons, not_or]; exact ⟨fun e => z e.symm, q2⟩⟩
theorem restR_get {ρ0 ρ : List Sl} {i : Nat} {x : Sl} : ∀ {vs : List Nat}, (restR ρ0 ρ vs)[i]? = some x → x = .un ∨ (∃ d, x = .fz d ∧ ρ0[i]? = some (.fz d)) ∨ (ρ[i]? = some x ∧ i ∉ vs)
  | [], h => .inr (.inr ⟨h, by simp⟩)
  | v :: vs, h => by
    unfold restR at h
    by_cases z : v = i
    · subst z
      have hv : v < (restR ρ0 ρ vs).length := by
        have := (List.getElem?_eq_some_iff.mp h).1
        rw [List.length_set] at this
        exact this
      rw [List.getElem?_set_self hv] at h
      cases h
      split
      · rename_i d hd
        exact .inr (.inl ⟨d, rfl, hd⟩)
      · exact .inl rfl
    · rw [List.getElem?_set_ne z] at h
      rcases restR_get h with q | q | ⟨q1, q2⟩
      · exact .inl q
      · exact .inr (.inl q)
      · exact .inr (.inr ⟨q1, by simp only [List.mem_cons, not_or]; exact ⟨fun e => z e.symm, q2⟩⟩)
theorem Rel.wipe (r : Rel K g0 g σ s) (vs : List Nat) : Rel K g0 g (L2.wipe σ vs) (s.wipe vs) := by
  refine r.chg (by rw [wipe_length, wipeR_length, r.sl]) fun i x h => ?_
  rcases wipeR_get h with q | ⟨q1, q2⟩
  · exact .inl q
  · exact .inr (.inr ⟨q1, wipe_out q2⟩)
/-- behind a turn the own names are forgotten again -/
theorem Rel.rewipe {σ2 : L2.St} {vs : List Nat} (r : Rel K g0 g σ2 s) (h : L2.wipe σ2 vs = L2.wipe σ vs) : Rel K g0 g (L2.wipe σ vs) (s.wipe vs) := by
  rw [← h]
  exact r.wipe vs
theorem Rel.restore {s0 : S} {gI : Mo} {vs : List Nat} (r : Rel K g0 g (L2.wipe σ vs) s) (r0 : Rel K g0 gI σ s0) (ex : Ext0 gI g) : Rel K g0 g σ (s.rest s0.ρ vs) := by
  refine r.chg (by rw [restR_length, ← r.sl, wipe_length]) fun i x h => ?_
  rcases restR_get h with q | ⟨d, q1, q2⟩ | ⟨q1, q2⟩
  · exact .inl q
  · obtain ⟨v, e, rp⟩ := r0.at_ i _ q2
    exact .inr (.inl ⟨d, v, q1, e, rp.ext0 ex⟩)
  · exact .inr (.inr ⟨q1, (wipe_out q2).symm⟩)
theorem wipe_at {j : Nat} : ∀ {τ : L2.St} {ws : List Nat}, j ∈ ws → (L2.wipe τ ws)[j]? = if j < τ.length then some none else none
  | τ, w :: ws, hm => by
    unfold L2.wipe
    by_cases hw : w = j
    · subst hw
      by_cases hl : w < τ.length
      · rw [List.getElem?_set_self (by rw [wipe_length]; exact hl), if_pos hl]
      · rw [if_neg hl]
        exact List.getElem?_eq_none (by rw [List.length_set, wipe_length]; omega)
    · rw [List.getElem?_set_ne hw]
      exact wipe_at (by
        rcases List.mem_cons.mp hm with z | z
        · exact absurd z.symm hw
        · exact z)
theorem wipe_set {i : Nat} {v : Option V} {vs : List Nat} (h : i ∈ vs) : L2.wipe (σ.set i v) vs = L2.wipe σ vs := by
  apply List.ext_getElem?
  intro j
  by_cases hj : j ∈ vs
  · rw [wipe_at hj, wipe_at hj, List.length_set]
  · rw [wipe_out hj, wipe_out hj, List.getElem?_set_ne (fun z => hj (by rw [← z]; exact h))]
theorem wipe_wipe {vs : List Nat} : L2.wipe (L2.wipe σ vs) vs = L2.wipe σ vs := by
  apply List.ext_getElem?
  intro j
  by_cases hj : j ∈ vs
  · rw [wipe_at hj, wipe_at hj, wipe_length]
  · rw [wipe_out hj, wipe_out hj]
theorem names_ok {vs : List Nat} {QV : L2.St → Hp → Prop} : ∀ {is : List Nat} {ds : List Dv} {us : List V} {σ : L2.St} {s : S}, ds.length = is.length → (∀ i ∈ is, i ∈ vs) → Rel K g0 g σ s → Rps K g ds us →
    (∀ σ2, Rel K g0 g σ2 (putAll is ds s) → L2.wipe σ2 vs = L2.wipe σ vs → QV σ2 g.H) → gNames is us σ g.H QV
  | [], ds, us, σ, s, hl, hi, r, rs, k => by
    cases rs with
    | nil => exact ⟨rfl, k σ r rfl⟩
    | cons _ _ => cases hl
  | i :: is, ds, us, σ, s, hl, hi, r, rs, k => by
    cases rs with
    | nil => cases hl
    | @cons d v ds us h rs =>
      refine ⟨v, us, rfl, ?_⟩
      refine names_ok (is := is) (Nat.succ.inj hl) (fun j hj => hi j (List.mem_cons_of_mem _ hj)) (r.put (i := i) (x := .fz d) h) rs fun σ2 r2 e2 => k σ2 r2 ?_
      rw [e2, wipe_set (hi i List.mem_cons_self)]
theorem ct_ok {ct : CT} {vs : List Nat} {d : Dv} {v : V} {Q : S → Prop} {QV : L2.St → Hp → Prop} (hi : ∀ i ∈ ct.ix, i ∈ vs) (r : Rel K g0 g σ s) (rp : Rp K g d v) (q : ct.v d s Q)
    (k : ∀ σ2 s2, Rel K g0 g σ2 s2 → L2.wipe σ2 vs = L2.wipe σ vs → Q s2 → QV σ2 g.H) : ct.g K v σ g.H QV := by
  cases ct with
  | nm i => exact k _ _ (r.put (i := i) (x := .fz d) rp) (wipe_set (hi i (by simp [CT.ix]))) q
  | tu is =>
    cases rp with
    | tup hH rs =>
      have q : _ ∧ _ := q
      exact ⟨_, _, rfl, hH.sq, by rw [← rs.len]; exact q.1, names_ok q.1 hi r rs fun σ2 r2 e2 => k σ2 _ r2 e2 q.2⟩
    | _ => exact (show False from q).elim
/-! ### tests in a comprehension -/
def uTs (X : Cx) (ifs : List Expr) : TT := fun σ H Q => ∀ (pins : List (Addr × Obj)) (s : Shared), Inv X pins σ H s →
    wpAny (model X.prog X.w) X.A (forIn ifs true fun c r => if r = true then do let ok ← isTrue c X.env (eval c X.env); pure (ForInStep.yield ok) else pure (ForInStep.yield r)) (TP X pins σ Q) X.xe s
theorem ptsu {t : TT} {H : Hp} {Q : Bool → Hp → Prop} (h : PTs X ifs t) (q : t σ H Q) : uTs X ifs σ H Q := fun pins s I => h.run pins s σ H Q I q
def VTs (X : Cx) (W : WX) (ifs : List Expr) (t : VTC) : Prop := ∀ g0 g σ s R Q QV, Rel X.K g0 g σ s → Cov X.K g0 g W R → CkC X.K g0 g σ Q QV → t R s Q → uTs X ifs σ g.H QV
theorem vts_nil : VTs X W [] cYes := fun g0 g σ s R Q QV r cv k q => ptsu pts_nil (k g s true r Ext.refl q)
theorem vts_one {t : VTC} (h : VC X W c t) : VTs X W [c] t := fun g0 g σ s R Q QV r cv k q => ptsu (pts_one pt_u) (h g0 g σ s R Q QV r cv k q)
/-! ### the comprehension -/
theorem cov0 : Cov K g0 g W0 R0 := fun _ _ _ _ _ _ _ _ _ h => h.elim
theorem ext_wrD {gI : Mo} {D : Addr} {o : HO} (h : gI.H D = none) (x : Ext gI g) : Ext gI (g.wr D o) := ⟨fun b u q n => by
  obtain ⟨z1, z2⟩ := x.fx b u q n
  exact ⟨z1, by show upd _ _ _ _ = _; rw [upd_ne (ne_of_none q h)]; exact z2⟩, x.al⟩
theorem ext_colD {gI : Mo} {D : Addr} {k : Nat} (h : gI.H D = none) (x : Ext gI g) : Ext gI (g.col D k) := ⟨fun b u q n => by
  obtain ⟨z1, z2⟩ := x.fx b u q n
  exact ⟨by show cst _ _ _ _ = _; rw [cst_ne (ne_of_none q h)]; exact z1, z2⟩, x.al⟩
theorem ext0_wr3 {D : Addr} {o : HO} (h : g.c D = 3 ∨ g.c D = 2) : Ext0 g (g.wr D o) := ⟨fun b u q n => ⟨n, u, by
  show upd _ _ _ _ = _
  rw [upd_ne (fun z => by rw [z] at n; omega)]
  exact q, .inl rfl⟩, [], by simp [Mo.wr]⟩
theorem Rel.wr3 {D : Addr} {o : HO} (r : Rel K g0 g σ s) (h3 : g.c D = 3) (h0 : g0.H D = none) : Rel K g0 (g.wr D o) σ s :=
  r.step (kp_wr r.kp (.inr h0)) (ext0_wr3 (.inl h3)) rfl (fun b => b = D) (fun b u q n => ⟨rfl, by show upd _ _ _ _ = _; rw [upd_ne n]; exact q⟩)
    (fun n a e z => by
      obtain ⟨_, _, h1⟩ := cells_live r e
      rw [z, h3] at h1
      cases h1)
    (fun i b a e1 e2 z => by
      obtain ⟨_, _, h2, _⟩ := slot_live r e1 e2
      rw [z, h3] at h2
      cases h2)
theorem Rel.col3 {D : Addr} (r : Rel K g0 g σ s) (h3 : g.c D = 3) (h0 : g0.H D = none) : Rel K g0 (g.col D 2) σ s ∧ Ext0 g (g.col D 2) := by
  have ex : Ext0 g (g.col D 2) := ⟨fun b u q n => ⟨by show cst _ _ _ _ = _; rw [cst_ne (fun z => by rw [z, h3] at n; cases n)]; exact n, u, q, .inl rfl⟩, [], by simp [Mo.col]⟩
  exact ⟨r.step (kp_col r.kp h0) ex rfl (fun b => b = D) (fun b u q n => ⟨by show cst _ _ _ _ = _; rw [cst_ne n], q⟩)
    (fun n a e z => by
      obtain ⟨_, _, h1⟩ := cells_live r e
      rw [z, h3] at h1
      cases h1)
    (fun i b a e1 e2 z => by
      obtain ⟨_, _, h2, _⟩ := slot_live r e1 e2
      rw [z, h3] at h2
      cases h2), ex⟩
/-- the element's, the tests' reading in every block -/
def uEb (X : Cx) (scope : Scope) (elt : Expr) : TE := fun σ H Q => ∀ (s : Shared) (Hb : Hp) (C : Addr) (cl : List (Str × Addr)) (fp : List Addr), uE (X.blk s Hb scope (compEnvC scope cl C X.env) fp) elt σ H Q
def uTb (X : Cx) (scope : Scope) (ifs : List Expr) : TT := fun σ H Q => ∀ (s : Shared) (Hb : Hp) (C : Addr) (cl : List (Str × Addr)) (fp : List Addr), uTs (X.blk s Hb scope (compEnvC scope cl C X.env) fp) ifs σ H Q
theorem pe_ub {scope : Scope} (s : Shared) (Hb : Hp) (C : Addr) (cl : List (Str × Addr)) (fp : List Addr) : PE (X.blk s Hb scope (compEnvC scope cl C X.env) fp) elt (uEb X scope elt) := ⟨fun pins sh σ H Q I h => (h s Hb C cl fp).run pins sh I⟩
theorem pts_ub {scope : Scope} (s : Shared) (Hb : Hp) (C : Addr) (cl : List (Str × Addr)) (fp : List Addr) : PTs (X.blk s Hb scope (compEnvC scope cl C X.env) fp) ifs (uTb X scope ifs) := ⟨fun pins sh σ H Q I h => h s Hb C cl fp pins sh I⟩
theorem comp_in {scope : Scope} {vs : List Nat} {ct : CT} {tt : VTC} {te : VT} {gI : Mo} {sI : S} {σ : L2.St} {items : List Dv} {chk : S → Prop} {J : It} (hix : ∀ i ∈ ct.ix, i ∈ vs)
    (ht : ∀ (s : Shared) (H : Hp) (C : Addr) (cl : List (Str × Addr)) (fp : List Addr), VTs (X.blk s H scope (compEnvC scope cl C X.env) fp) W0 ifs tt)
    (he : ∀ (s : Shared) (H : Hp) (C : Addr) (cl : List (Str × Addr)) (fp : List Addr), VE (X.blk s H scope (compEnvC scope cl C X.env) fp) W0 elt te)
    {Q : Sl → S → Prop} {QV : VK} (rI : Rel X.K g0 gI σ sI) (k : CkE X.K g0 gI σ Q QV) (ok : ItOk X.K g0 gI items chk J) (qI : compV vs chk ct tt te (fun acc s' => Q (.ow (.lst acc)) (s'.rest sI.ρ vs)) items [] (sI.wipe vs)) :
    ∀ D, gI.H D = none → ∃ W : Nat → Nat → Hp → Prop, (∃ m, W 0 m (upd gI.H D (.lst []))) ∧ ∀ i m H, W i m H →
      (J.stop i H ∧ QV (.ref D) H) ∨ (J.go i H ∧ ∃ Nx : Hp → Prop, (∀ H', Nx H' → ∃ m', m' < m ∧ W (i + 1) m' H') ∧ ∀ x H', J.yld i H x H' → ct.g X.K x (L2.wipe σ vs) H' fun σ2 H2 => L2.wipe σ2 vs = L2.wipe σ vs ∧ uTb X scope ifs σ2 H2 fun b H3 =>
        if b = true then uEb X scope elt σ2 H3 fun y H4 => ∃ acc, H4 D = some (.lst acc) ∧ acc.length < sizeLine ∧ Nx (upd H4 D (.lst (acc ++ [y]))) else Nx H3) := by
  intro D hD
  have g0D : g0.H D = none := rI.kp.fresh hD
  refine ⟨fun i m H => m = items.length - i ∧ i ≤ items.length ∧ ∃ g s acc us, g.H = H ∧ Rel X.K g0 g (L2.wipe σ vs) s ∧ Ext gI g ∧ g.c D = 3 ∧ g.H D = some (.lst us) ∧ Rps X.K g acc us ∧
      compV vs chk ct tt te (fun acc s' => Q (.ow (.lst acc)) (s'.rest sI.ρ vs)) (items.drop i) acc s, ⟨items.length, by omega, Nat.zero_le _, gI.new D 3 (.lst []), sI.wipe vs, [], [], rfl, (rI.new hD).wipe vs, ext_new hD, cst_same, upd_same, .nil, qI⟩, ?_⟩
  rintro i m H ⟨rfl, hil, g1, s1, acc, us, rfl, r1, ex1, c1, hD1, rs1, q1⟩
  by_cases hlt : i < items.length
  · have e : items[i]? = some items[i] := List.getElem?_eq_getElem hlt
    have e2 : items.drop i = items[i] :: items.drop (i + 1) := List.drop_eq_getElem_cons hlt
    rw [e2] at q1
    obtain ⟨hck, q1⟩ := q1
    obtain ⟨_, ho⟩ := ok g1 _ s1 i r1 ex1 hck hil
    obtain ⟨hgo, hy⟩ := ho _ e
    refine .inr ⟨hgo, fun H' => i + 1 ≤ items.length ∧ ∃ g s acc us, g.H = H' ∧ Rel X.K g0 g (L2.wipe σ vs) s ∧ Ext gI g ∧ g.c D = 3 ∧ g.H D = some (.lst us) ∧ Rps X.K g acc us ∧
      compV vs chk ct tt te (fun acc s' => Q (.ow (.lst acc)) (s'.rest sI.ρ vs)) (items.drop (i + 1)) acc s, fun H' h => ⟨items.length - (i + 1), by omega, rfl, h⟩, fun x H' y => ?_⟩
    obtain ⟨g2, rfl, r2, ex2, rp⟩ := hy x H' y
    obtain ⟨c2, hD2⟩ := ex2.fx D _ hD1 (.inr c1)
    refine ct_ok hix r2 rp q1 (fun σ3 s3 r3 ew q3 => ?_)
    refine ⟨ew.trans wipe_wipe, ?_⟩
    intro sh Hb C cl fp
    refine ht sh Hb C cl fp g0 g2 σ3 s3 R0 _ _ r3 cov0 (fun g4 s4 b r4 ex4 q4 => ?_) q3
    have ew' : L2.wipe σ3 vs = L2.wipe σ vs := ew.trans wipe_wipe
    obtain ⟨c4, hD4⟩ := ex4.fx D _ hD2 (.inr (by rw [c2]; exact c1))
    have c4' : g4.c D = 3 := by rw [c4, c2]; exact c1
    cases b with
    | true =>
      rw [if_pos rfl]
      have q4 := br_t q4
      intro sh2 Hb2 C2 cl2 fp2
      refine (he sh2 Hb2 C2 cl2 fp2).fz (Q := fun x s => acc.length < sizeLine ∧ compV vs chk ct tt te (fun acc s' => Q (.ow (.lst acc)) (s'.rest sI.ρ vs)) (items.drop (i + 1)) (acc ++ [x]) (s.wipe vs)) r4 cov0 (fun g5 s5 w d r5 ex5 rp5 q5 => ?_) q4
      obtain ⟨c5, hD5⟩ := ex5.fx D _ hD4 (.inr c4')
      have c5' : g5.c D = 3 := by rw [c5]; exact c4'
      have exz : Ext0 g5 (g5.wr D (.lst (us ++ [w]))) := ext0_wr3 (.inl c5')
      have rs5 : Rps X.K g5 acc us := ((rs1.ext ex2).ext ex4).ext ex5
      refine ⟨us, hD5, by rw [← rs1.len]; exact q5.1, hlt, g5.wr D (.lst (us ++ [w])), s5.wipe vs, acc ++ [d], us ++ [w], rfl, (r5.rewipe ew').wr3 c5' g0D, ext_wrD hD (((ex1.trans ex2).trans ex4).trans ex5), c5', upd_same, ?_, q5.2⟩
      exact (rs5.app (.one rp5)).ext0 exz
    | false =>
      rw [if_neg Bool.false_ne_true]
      have q4 := br_f q4
      exact ⟨hlt, g4, s4.wipe vs, acc, us, rfl, r4.rewipe ew', (ex1.trans ex2).trans ex4, c4', hD4, (rs1.ext ex2).ext ex4, q4⟩
  · have e : i = items.length := by omega
    subst e
    rw [List.drop_length] at q1
    obtain ⟨hck, q1⟩ := q1
    obtain ⟨hstop, _⟩ := ok g1 _ s1 _ r1 ex1 hck hil
    refine .inl ⟨hstop rfl, ?_⟩
    have r2 := r1.restore rI ex1.z
    obtain ⟨r3, ex3⟩ := r2.col3 c1 g0D
    have exf : Ext gI (g1.col D 2) := ext_colD hD ex1
    refine k (g1.col D 2) _ (.ref D) (.ow (.lst acc)) r3 exf ⟨D, rfl, cst_same, g0D, ⟨us, hD1, rs1.ext0 ex3⟩, fun j b' h1 h2 => ?_⟩ q1
    obtain ⟨_, _, h3, _⟩ := slot_live r2 h1 h2
    rw [c1] at h3
    cases h3
theorem comp_core {scope : Scope} {own : List (Str × Nat)} {it : VTI} {ct : CT} {tt : VTC} {te : VT} (hi : VI X W tg iter it) (hix : ∀ i ∈ ct.ix, i ∈ own.map (·.2))
    (ht : ∀ (s : Shared) (H : Hp) (C : Addr) (cl : List (Str × Addr)) (fp : List Addr), VTs (X.blk s H scope (compEnvC scope cl C X.env) fp) W0 ifs tt)
    (he : ∀ (s : Shared) (H : Hp) (C : Addr) (cl : List (Str × Addr)) (fp : List Addr), VE (X.blk s H scope (compEnvC scope cl C X.env) fp) W0 elt te)
    {Q : Sl → S → Prop} {QV : VK} (r : Rel X.K g0 g σ s) (cv : Cov X.K g0 g W R) (k : CkE X.K g0 g σ Q QV) (q : vComp (own.map (·.2)) it ct tt te R s Q) :
    tLc (uI X tg iter) (ct.g X.K) (uTb X scope ifs) (uEb X scope elt) (own.map (·.2)) σ g.H QV := by
  generalize own.map (·.2) = vs at *
  exact hi g0 g σ s R _ _ r cv (fun gI sI items chk J rI exI ok qI => comp_in hix ht he rI (k.ext exI) ok qI) q
section
variable {scope : Scope} {own : List (Str × Nat)} {it : VTI} {tt : VTC} {te : VT}
theorem ve_lc (ct : CT) (hc : X.calm = true) (hN : X.N.Nodup) (hi : VI X W tg iter it) (ok : BlkOk X.N X.env.scope scope own)
    (hg : ∀ (s : Shared) (H : Hp) (C : Addr) (cl : List (Str × Addr)) (fp : List Addr), PG (X.blk s H scope (compEnvC scope cl C X.env) fp) tg (ct.g X.K))
    (ht : ∀ (s : Shared) (H : Hp) (C : Addr) (cl : List (Str × Addr)) (fp : List Addr), VTs (X.blk s H scope (compEnvC scope cl C X.env) fp) W0 ifs tt)
    (he : ∀ (s : Shared) (H : Hp) (C : Addr) (cl : List (Str × Addr)) (fp : List Addr), VE (X.blk s H scope (compEnvC scope cl C X.env) fp) W0 elt te)
    (hix : ∀ i ∈ ct.ix, i ∈ own.map (·.2) := by decide) (hs : ∀ x, foldedSetIterable iter X.env x = pure x := by intro _; rfl) : VE X W (.ListComp elt [⟨tg, iter, ifs, 0⟩] scope pos) (vComp (own.map (·.2)) it ct tt te) :=
  fun g0 g σ s R Q QV r cv k q => peu (pe_lc hc hN pi_u ok hg pts_ub pe_ub hs) (comp_core hi hix ht he r cv k q)
theorem vs_setLc {i : Nat} {y : Str} {py spos : Pos} (ct : CT) (hc : X.calm = true) (hN : X.N.Nodup) (hy : X.N[i]? = some y) (hyl : X.env.scope.names.lookup y = some .local)
    (hsw : swapsWith (.ListComp elt [⟨tg, iter, ifs, 0⟩] scope pos) (some (.Name y py)) spos.line X.env = pure true) (hi : VI X W tg iter it) (ok : BlkOk X.N X.env.scope scope own)
    (hg : ∀ (s : Shared) (H : Hp) (C : Addr) (cl : List (Str × Addr)) (fp : List Addr), PG (X.blk s H scope (compEnvC scope cl C X.env) fp) tg (ct.g X.K))
    (ht : ∀ (s : Shared) (H : Hp) (C : Addr) (cl : List (Str × Addr)) (fp : List Addr), VTs (X.blk s H scope (compEnvC scope cl C X.env) fp) W0 ifs tt)
    (he : ∀ (s : Shared) (H : Hp) (C : Addr) (cl : List (Str × Addr)) (fp : List Addr), VE (X.blk s H scope (compEnvC scope cl C X.env) fp) W0 elt te)
    (hix : ∀ i ∈ ct.ix, i ∈ own.map (·.2) := by decide) (hs : ∀ x, foldedSetIterable iter X.env x = pure x := by intro _; rfl) : VS X W (.Assign [.Name y py] (.ListComp elt [⟨tg, iter, ifs, 0⟩] scope pos) spos) (sSet i (vComp (own.map (·.2)) it ct tt te)) :=
  fun g0 g σ s R Q D r cv k q => psu (ps_setLc hc hN hy hyl hsw pi_u ok hg pts_ub pe_ub hs)
    (comp_core (Q := fun x s => Q .nx (s.put i x)) (QV := fun v H => D.nx (σ.set i (some v)) H) hi hix ht he r cv (fun g' s' v z r' ex tm q' => k.nx g' _ _ (r'.put tm) ex q') q)
end
end
end VL

/-! V8: defs, calls, methods, instances, exceptions. -/
namespace VL
open PySem PySem.Spec PyProof.Rows L2
/-- what a def does, by plain data: arguments, cells, the wanted end, the wanted exception -/
abbrev VSp := List Dv → List Cl → (Sl → List Cl → Prop) → (Exn → List Cl → Prop) → Prop
structure Cs (K : PySem.W.Frag) (g : Mo) (st : List Cl) : Prop where
  ln : g.α.length = st.length
  nd : g.α.Nodup
  ce : ∀ (n : Nat) (cl : Cl), st[n]? = some cl → ∃ a, g.α[n]? = some a ∧ g.c a = 1 ∧ ClAt K g a cl
def ResAt (K : PySem.W.Frag) (g g' : Mo) (v : V) : Sl → Prop
  | .un => False
  | .fz d => Rp K g' d v
  | .ow b => ∃ a, v = .ref a ∧ g'.c a = 2 ∧ g.H a = none ∧ BdAt K g' a b
def AlExt (g g' : Mo) : Prop := ∃ t, g'.α = g.α ++ t
def spV (K : PySem.W.Frag) (F : VSp) : Sp := fun vs H Q E => ∃ g ds st Q0 R0, g.H = H ∧ Cs K g st ∧ Rps K g ds vs ∧ F ds st Q0 R0 ∧
  (∀ x st', Q0 x st' → ∀ g' v, Kp g g' → AlExt g g' → Cs K g' st' → ResAt K g g' v x → Q v g'.H) ∧
  ∀ ex st', R0 ex st' → ∀ g' cls d, Kp g g' → AlExt g g' → Cs K g' st' → ExAt K g' ex cls d → E cls d g'.H
section
variable {X : Cx} {W : WX} {e a b c o : Expr} {es : List Expr} {t to : VT} {tr : VTA} {g0 g g' : Mo} {σ : L2.St} {s : S} {R : RK} {pos : Pos} {x m : Str} {p cpos apos : Pos} {st : Stmt} {sts : List Stmt} {K : PySem.W.Frag} {F : VSp} {k : Nat} {ps : List Str} {C : Addr}
theorem Rel.cs (r : Rel K g0 g σ s) : Cs K g s.st := ⟨r.ln, r.nd, r.ce⟩
/-- behind a call -/
theorem Rel.call {st' : List Cl} (r : Rel K g0 g σ s) (kp : Kp g g') (al : AlExt g g') (cs : Cs K g' st') : Rel K g0 g' σ { s with st := st' } where
  kp := r.kp.trans kp
  al := by
    obtain ⟨t, e⟩ := r.al
    obtain ⟨u, e'⟩ := al
    exact ⟨t ++ u, by rw [e', e, List.append_assoc]⟩
  ln := cs.ln
  nd := cs.nd
  ce := cs.ce
  sl := r.sl
  at_ := fun i x h => by
    have q := r.at_ i x h
    have ex : Ext g g' := kp.ext al
    cases x with
    | un => trivial
    | fz d =>
      obtain ⟨v, e, w⟩ := q
      exact ⟨v, e, w.ext ex⟩
    | ow b =>
      obtain ⟨a, e, h2, h3, h4⟩ := q
      obtain ⟨o, ho⟩ := h4.has
      exact ⟨a, e, by rw [kp.col a o ho]; exact h2, h3, h4.ext ex (by rw [kp.keep a o ho (by rw [h2]; decide), ho])⟩
  dj := r.dj
theorem ResAt.tmp {v : V} {x : Sl} {st' : List Cl} (r : Rel K g0 g σ s) (h : ResAt K g g' v x) : Tmp K g0 g' σ { s with st := st' } v x := by
  cases x with
  | un => exact h
  | fz d => exact h
  | ow b =>
    obtain ⟨a, rfl, h2, h0, hb⟩ := h
    refine ⟨a, rfl, h2, r.kp.fresh h0, hb, fun i b' e1 e2 => ?_⟩
    obtain ⟨o, ho, _⟩ := slot_live r e1 e2
    rw [h0] at ho
    cases ho
def vCall (F : VSp) (ta : VTA) : VT := fun R s Q => ta R s fun ds s => F ds s.st (fun y st' => Q y { s with st := st' }) fun ex st' => R ex { s with st := st' }
/-- the promise at a call -/
theorem sp_call {ds : List Dv} {vs : List V} {Q : Sl → S → Prop} {QV : VK} (r : Rel K g0 g σ s) (cv : Cov K g0 g W R) (k : CkE K g0 g σ Q QV) (rs : Rps K g ds vs) (q : F ds s.st (fun y st' => Q y { s with st := st' }) fun ex st' => R ex { s with st := st' }) :
    spV K F vs g.H QV (WE W σ) :=
  ⟨g, ds, s.st, _, _, rfl, r.cs, rs, q, fun x st' qx g' v kp al cs ra => k g' _ v x (r.call kp al cs) (kp.ext al) (ra.tmp r) qx, fun ex st' qx g' cls d kp al cs ea => cv ex _ σ g' cls d (r.call kp al cs) (kp.ext al) ea qx⟩
/-- the module's name x is a def that does F -/
abbrev VD (P : Program) (w : World) (K : PySem.W.Frag) (mg : Str → Option Value) (base : Heap) (k : Nat) (x : Str) (ps : List Str) (F : VSp) : Prop := DefOk P w K mg base (CXr P w) k x ps (spV K F)
abbrev VM (P : Program) (w : World) (K : PySem.W.Frag) (mg : Str → Option Value) (base : Heap) (k : Nat) (C : Addr) (m : Str) (ps : List Str) (F : VSp) : Prop := MethOk P w K mg base (CXr P w) k C m ps (spV K F)
theorem ve_call (G : VD X.prog X.w X.K X.mg X.base k x ps F) (hr : Room k X.A) (tk : Takes X W) (ha : VA X W (e :: es) tr) (hg : Gl X x := by rfl) (hdb : (x == ("__debug__" : Str)) = false := by decide)
    (he : starEach (e :: es) X.env = (false, eval e X.env) :: starEach es X.env := by rfl) (hpl : (backTo pos (starEach es X.env)).any (·.1) = false := by rfl) : VE X W (.Call (.Name x p) (e :: es) [] pos) (vCall F tr) := by
  intro g0 g σ s R Q QV r cv kq q
  exact peu (pe_Dx G hr tk pa_u hg hdb he hpl) (ha g0 g σ s R _ _ r cv (fun g1 s1 vs ds r1 ex1 rs1 q1 => sp_call r1 (cv.ext ex1) (kq.ext ex1) rs1 q1) q)
theorem pe_Dx0 {sp : Sp} (G : DefOk X.prog X.w X.K X.mg X.base (CXr X.prog X.w) k x ps sp) (hr : Room k X.A) (tk : Takes X W) (hg : Gl X x := by rfl) (hdb : (x == ("__debug__" : Str)) = false := by decide) : PE X (.Call (.Name x p) [] [] pos) (fun σ H Q => sp [] H Q (WE W σ)) := by
  obtain ⟨f, fd, hm, hk, hb, F⟩ := G.ex
  refine ⟨fun pins s σ H Q I h => wpAny_Call_Name_kw (ld_glob I hg hm ?_ hdb)⟩
  exact PySem.W.callWith_K0 (first := []) I.kIn hk (run_fnS (E := WE W) (us := []) (vs := []) F hr hb (passAt tk σ) I .nil h)
theorem ve_call0 (G : VD X.prog X.w X.K X.mg X.base k x ps F) (hr : Room k X.A) (tk : Takes X W) (hg : Gl X x := by rfl) (hdb : (x == ("__debug__" : Str)) = false := by decide) : VE X W (.Call (.Name x p) [] [] pos) (vCall F aNil) :=
  fun g0 g σ s R Q QV r cv kq q => peu (pe_Dx0 G hr tk hg hdb) (sp_call r cv kq .nil q)
/-! ### methods -/
def vMeth (C : Addr) (m : Str) (F : VSp) (to : VT) (ta : VTA) : VT := fun R s Q => to R s fun x s => insAt s C x.d fun _ fs => lookF m fs = none ∧ ta R s fun ds s => F (x.d :: ds) s.st (fun y st' => Q y { s with st := st' }) fun ex st' => R ex { s with st := st' }
theorem ve_meth {pl : Sem Bool} (G : VM X.prog X.w X.K X.mg X.base k C m ps F) (hr : Room k X.A) (tk : Takes X W) (hC : Cls X.K C) (ho : VE X W o to) (ha : VA X W (e :: es) tr)
    (hst : starEach (e :: es) X.env = (false, eval e X.env) :: starEach es X.env := by rfl) (hpl : (backTo pos (starEach es X.env)).any (·.1) = false := by rfl)
    (ht : eval (.Call (.Attribute o m apos) (e :: es) [] pos) X.env = (do
      let ov ← eval o X.env
      standAt apos.atName
      let (f, first) ← holding [ov] (getMethod ov m pl)
      callWith pos f first (backTo pos (starEach (e :: es) X.env)) (backToKw pos (keywordEach [] X.env))) := by rfl) : VE X W (.Call (.Attribute o m apos) (e :: es) [] pos) (vMeth C m F to tr) := by
  intro g0 g σ s R Q QV r cv kq q
  refine peu (pe_Mx G hr tk hC pe_u pa_u hst hpl ht) (ho.fz (Q := fun x s => insAt s C x fun _ fs => lookF m fs = none ∧ tr R s fun ds s => F (x :: ds) s.st (fun y st' => Q y { s with st := st' }) fun ex st' => R ex { s with st := st' }) r cv (fun g1 s1 v d r1 ex1 rp q1 => ?_) q)
  obtain ⟨n, a, dx, fs, vs, rfl, ha', hc, hs, hH, rf, hl, q2⟩ := ins_ok r1 rp q1
  refine ⟨a, dx, vs, rfl, hH, rf.none hl, ha g0 g1 σ s1 R _ _ r1 (cv.ext ex1) (fun g2 s2 vs ds r2 ex2 rs2 q3 => ?_) q2⟩
  exact sp_call r2 (cv.ext (ex1.trans ex2)) (kq.ext (ex1.trans ex2)) (.cons (rp.ext ex2) rs2) q3
theorem ve_meth0 {pl : Sem Bool} (G : VM X.prog X.w X.K X.mg X.base k C m ps F) (hr : Room k X.A) (tk : Takes X W) (hC : Cls X.K C) (ho : VE X W o to)
    (ht : eval (.Call (.Attribute o m apos) [] [] pos) X.env = (do
      let ov ← eval o X.env
      standAt apos.atName
      let (f, first) ← holding [ov] (getMethod ov m pl)
      callWith pos f first (backTo pos (starEach [] X.env)) (backToKw pos (keywordEach [] X.env))) := by rfl) : VE X W (.Call (.Attribute o m apos) [] [] pos) (vMeth C m F to aNil) := by
  intro g0 g σ s R Q QV r cv kq q
  refine peu (pe_Mx0 G hr tk hC pe_u ht) (ho.fz (Q := fun x s => insAt s C x fun _ fs => lookF m fs = none ∧ aNil R s fun ds s => F (x :: ds) s.st (fun y st' => Q y { s with st := st' }) fun ex st' => R ex { s with st := st' }) r cv (fun g1 s1 v d r1 ex1 rp q1 => ?_) q)
  obtain ⟨n, a, dx, fs, vs, rfl, ha', hc, hs, hH, rf, hl, q2⟩ := ins_ok r1 rp q1
  exact ⟨a, dx, vs, rfl, hH, rf.none hl, sp_call r1 (cv.ext ex1) (kq.ext ex1) (.cons rp .nil) q2⟩
/-! ### a def -/
def vDef (N : List Str) (t : VTS) : VSp := fun ds st Q R => t (fun ex s => R ex s.st) ⟨ds.map .fz ++ List.replicate (N.length - ds.length) .un, st⟩ fun f s => match f with
  | .nx => Q (.fz .non) s.st
  | .rt x => Q x s.st
  | _ => False
theorem rel_start {N : List Str} {ds : List Dv} {vs : List V} {st : List Cl} (cs : Cs K g st) (rs : Rps K g ds vs) : Rel K g g (L2.start N vs) ⟨ds.map .fz ++ List.replicate (N.length - ds.length) .un, st⟩ where
  kp := Kp.refl
  al := ⟨[], by simp⟩
  ln := cs.ln
  nd := cs.nd
  ce := cs.ce
  sl := by
    unfold L2.start
    simp [rs.len]
  at_ := fun i y h => by
    have h : (ds.map Sl.fz ++ List.replicate (N.length - ds.length) .un)[i]? = some y := h
    by_cases hi : i < ds.length
    · rw [List.getElem?_append_left (by simpa using hi), List.getElem?_map, List.getElem?_eq_getElem hi] at h
      cases h
      obtain ⟨v, hv, rp⟩ := rs.get (List.getElem?_eq_getElem hi)
      refine ⟨v, ?_, rp⟩
      unfold L2.start
      rw [List.getElem?_append_left (by rw [List.length_map, ← rs.len]; exact hi), List.getElem?_map, hv]
      rfl
    · rw [List.getElem?_append_right (by simpa using hi)] at h
      have := List.mem_of_getElem? h
      rw [List.mem_replicate] at this
      rw [this.2]
      trivial
  dj := fun i j b b' a h1 h2 e1 e2 => by
    have h1 : (ds.map Sl.fz ++ List.replicate (N.length - ds.length) .un)[i]? = some (.ow b) := h1
    have := List.mem_of_getElem? h1
    rw [List.mem_append] at this
    rcases this with z | z
    · obtain ⟨_, _, z⟩ := List.mem_map.mp z
      cases z
    · rw [List.mem_replicate] at z
      cases z.2
theorem def_core {X : Cx} {N : List Str} {sts : List Stmt} {t : VTS} {ds : List Dv} {vs : List V} {st : List Cl} {Q0 : Sl → List Cl → Prop} {R0 : Exn → List Cl → Prop} {Q : VK} {E : XK} (cs : Cs X.K g st) (rs : Rps X.K g ds vs)
    (hd : VSs X (fun cls d _ H => E cls d H) sts t) (q : vDef N t ds st Q0 R0)
    (hQ : ∀ x st', Q0 x st' → ∀ g' v, Kp g g' → AlExt g g' → Cs X.K g' st' → ResAt X.K g g' v x → Q v g'.H) (hR : ∀ ex st', R0 ex st' → ∀ g' cls d, Kp g g' → AlExt g g' → Cs X.K g' st' → ExAt X.K g' ex cls d → E cls d g'.H) :
    uSs X sts { nx := fun _ H' => Q .non H', rt := Q } (L2.start N vs) g.H :=
  hd g g (L2.start N vs) _ (fun ex s => R0 ex s.st) _ _ (rel_start cs rs) (fun ex s' σ g' cls d r ex' ea hr => hR ex s'.st hr g' cls d r.kp r.al r.cs ea)
    ⟨fun g' σ' s' r ex q => hQ (.fz .non) _ q g' .non r.kp r.al r.cs Rp.non, fun g' σ' s' r ex q => q.elim, fun g' σ' s' r ex q => q.elim, fun g' σ' s' v x r ex tm q => hQ _ _ q g' v r.kp r.al r.cs (by
      cases x with
      | un => exact tm
      | fz d => exact tm
      | ow b =>
        obtain ⟨a, e, h2, h0, hb, _⟩ := tm
        exact ⟨a, e, h2, h0, hb⟩)⟩ q
section
variable {P : Program} {w : World} {mg : Str → Option Value} {base : Heap} {f : Addr} {fd : FuncData} {N : List Str} {t : VTS} {q : Str}
theorem mk_v (Fd : FunD K x x (defArgs st) (defBody st) (defScope st) [] [] f fd) (hm : mg x = some (.ref f)) (hb : Binds K fd ps []) (S : FnScope N ps (defScope st))
    (hd : ∀ (cdv : Value) (A : Around) (outer : List Env) (s : Shared) (H : Hp) (E : XK), Room k (A.deeper (envOfC x (defScope st) s.heap.objs.size f cdv)) →
      VSs (cxOf (CXr P w) P w K mg base N x (defScope st) f cdv A outer s H E) (fun cls d _ H => E cls d H) (defBody st) t)
    (hl : ∀ ds st Q R, F ds st Q R → ds.length = ps.length) (hp : ∀ ds st Q R, F ds st Q R → vDef N t ds st Q R) : VD P w K mg base (k + 1) x ps F := by
  refine mk_defX Fd hm hb S (fun vs H Q E h => ?_) (fun cdv A outer s H vs Q E hr h => ?_)
  · obtain ⟨g, ds, st, Q0, R0, _, _, rs, h, _⟩ := h
    rw [← rs.len]
    exact hl _ _ _ _ h
  · obtain ⟨g, ds, st, Q0, R0, rfl, cs, rs, h, hQ, hR⟩ := h
    exact ⟨_, pss_u, def_core cs rs (hd cdv A outer s g.H E hr) (hp _ _ _ _ h) hQ hR⟩
theorem mk_vm (Fd : FunD K m q (defArgs st) (defBody st) (defScope st) [] [] f fd) (hm : Meth K C m f) (hb : Binds K fd ps []) (S : FnScope N ps (defScope st))
    (hd : ∀ (cdv : Value) (A : Around) (outer : List Env) (s : Shared) (H : Hp) (E : XK), Room k (A.deeper (envOfC q (defScope st) s.heap.objs.size f cdv)) →
      VSs (cxOf (CXr P w) P w K mg base N q (defScope st) f cdv A outer s H E) (fun cls d _ H => E cls d H) (defBody st) t)
    (hl : ∀ ds st Q R, F ds st Q R → ds.length = ps.length) (hp : ∀ ds st Q R, F ds st Q R → vDef N t ds st Q R) : VM P w K mg base (k + 1) C m ps F := by
  refine mk_methX Fd hm hb S (fun vs H Q E h => ?_) (fun cdv A outer s H vs Q E hr h => ?_)
  · obtain ⟨g, ds, st, Q0, R0, _, _, rs, h, _⟩ := h
    rw [← rs.len]
    exact hl _ _ _ _ h
  · obtain ⟨g, ds, st, Q0, R0, rfl, cs, rs, h, hQ, hR⟩ := h
    exact ⟨_, pss_u, def_core cs rs (hd cdv A outer s g.H E hr) (hp _ _ _ _ h) hQ hR⟩
end
/-! ### raise -/
def sRaise (C : Addr) (fld : Str) (ta : VTA) : VTS := fun R s _ => ta R s fun ds s => match ds with
  | [d] => R ⟨.ref C, some (fld, d)⟩ s
  | _ => False
theorem vs_raise {fI : Addr} {fld : Str} {pos2 : Pos} (hc : X.calm = true) (T : Lo.LowC X.prog X.K C fI fld) (gC : X.mg x = some (.ref C)) (hr : Room k X.A) (tk : Takes X W) (ha : VA X W [a] tr) (hg : Gl X x := by rfl) (hdb : (x == ("__debug__" : Str)) = false := by decide)
    (he : starEach (a :: []) X.env = (false, eval a X.env) :: starEach [] X.env := by rfl) (hpl : (backTo pos (starEach [] X.env)).any (·.1) = false := by rfl) :
    VS X W (.Raise (some (.Call (.Name x p) [a] [] pos)) none pos2) (sRaise C fld tr) := by
  intro g0 g σ s R Q D r cv kq q
  refine psu (ps_raiseLow hc T gC hr tk pa_u hg hdb he hpl) (ha g0 g σ s R _ _ r cv (fun g1 s1 vs ds r1 ex1 rs1 q1 => ?_) q)
  split at q1
  · rename_i d
    cases rs1 with
    | @cons _ v _ _ h1 rs1 =>
    cases rs1
    refine ⟨v, rfl, fun dd hd => ?_⟩
    exact cv ⟨.ref C, some (fld, d)⟩ s1 σ (g1.new dd 0 (.xd [(fld, v)])) _ _ (r1.new hd) (ex1.trans (ext_new hd)) ⟨rfl, dd, v, rfl, cst_same, upd_same, h1.ext (ext_new hd)⟩ q1
  · exact q1.elim
/-- raise C(text), C without fields -/
def sRaise0 (C : Addr) : VTS := fun R s _ => R ⟨.ref C, none⟩ s
theorem vs_raise0 {e : Expr} {pos2 : Pos} (hc : X.calm = true) (tk : Takes X W) (hm : PMk X e (fun _ H Q => Q (.ref C) none H)) : VS X W (.Raise (some e) none pos2) (sRaise0 C) :=
  fun g0 g σ s R Q D r cv kq q => psu (ps_raise hc tk hm) (cv ⟨.ref C, none⟩ s σ g _ _ r Ext.refl ⟨rfl, rfl⟩ q)
/-! ### try -/
abbrev VCl := Value × Option Nat × (Addr → Option Addr → VTS)
def xobs (a : Addr) (d : Option Addr) (ex : Exn) (s : S) (i : Nat) (k : S → Prop) : Prop := match ex.fld, d with
  | some (f, x), some p => k (s.put i (.fz (.xob a p f x)))
  | none, none => k (s.put i (.fz (.raw (.ref a))))
  | _, _ => False
def hand (K : PySem.W.Frag) (R : RK) (Q : Fl → S → Prop) : List VCl → Exn → Option Addr → S → Prop
  | [], ex, _, s => R ex s
  | (c, none, ts) :: r, ex, d, s => ∃ b, PySem.W.exmOne K ex.cls c = some b ∧ if b = true then ∀ a, ts a d R0 s Q else hand K R Q r ex d s
  | (c, some i, ts) :: r, ex, d, s => ∃ b, PySem.W.exmOne K ex.cls c = some b ∧ if b = true then ∀ a, xobs a d ex s i fun s => ts a d R0 s (fun f s => match f with
      | .nx => Q .nx (s.put i .un)
      | .bk => Q .bk (s.put i .un)
      | .ct => Q .ct (s.put i .un)
      | .rt x => Q (.rt x) s) else hand K R Q r ex d s
def sTry (K : PySem.W.Frag) (t : VTS) (l : List VCl) : VTS := fun R s Q => t (fun ex s => ∀ d, (ex.fld = none ↔ d = none) → hand K R Q l ex d s) s Q
def uHd (X : Cx) (suite : List Stmt) : Addr → Value → Option Addr → TS := fun a cls d D σ H => ∀ (oe : Obj) (pn : List (Addr × Obj)), Zc cls d oe → (∃ vs, oe.data = .fields vs) → uSs (X.suite a ((a, oe) :: pn)) suite D σ H
inductive VHd (X : Cx) : List ExceptHandler → List Clause → List VCl → Prop
  | nil : VHd X [] [] []
  | cons {x : Str} {c : Value} {ts : Addr → Option Addr → VTS} {b₀ : Stmt} {suite : List Stmt} {np pos' : Pos} {hds : List ExceptHandler} {l : List Clause} {vl : List VCl} (hc : Names X x c)
      (hsu : ∀ (a : Addr) (oe : Obj) (cls : Value) (d : Option Addr) (pn : List (Addr × Obj)), Zc cls d oe → (∃ vs, oe.data = .fields vs) → VSs (X.suite a ((a, oe) :: pn)) W0 (b₀ :: suite) (ts a d)) (r : VHd X hds l vl) :
      VHd X (.ExceptHandler (some (.Name x np)) none (b₀ :: suite) pos' :: hds) ((c, none, uHd X (b₀ :: suite)) :: l) ((c, none, ts) :: vl)
  | consAs {x n : Str} {i : Nat} {c : Value} {ts : Addr → Option Addr → VTS} {b₀ : Stmt} {suite : List Stmt} {np pos' : Pos} {hds : List ExceptHandler} {l : List Clause} {vl : List VCl} (hi : X.N[i]? = some n) (hln : X.env.kindOf n = some .local) (hc : Names X x c)
      (hsu : ∀ (a : Addr) (oe : Obj) (cls : Value) (d : Option Addr) (pn : List (Addr × Obj)), Zc cls d oe → (∃ vs, oe.data = .fields vs) → VSs (X.suite a ((a, oe) :: pn)) W0 (b₀ :: suite) (ts a d)) (r : VHd X hds l vl) :
      VHd X (.ExceptHandler (some (.Name x np)) (some n) (b₀ :: suite) pos' :: hds) ((c, some i, uHd X (b₀ :: suite)) :: l) ((c, some i, ts) :: vl)
theorem VHd.hda {hds : List ExceptHandler} {l : List Clause} {vl : List VCl} (h : VHd X hds l vl) : HdA X hds l := by
  induction h with
  | nil => exact .nil
  | cons hc hsu r ih => exact .cons hc (fun a oe cls d pn hz hf => ⟨fun pins s σ H D I h => (h oe pn hz hf).run pins s I⟩) ih
  | consAs hi hln hc hsu r ih => exact .consAs hi hln hc (fun a oe cls d pn hz hf => ⟨fun pins s σ H D I h => (h oe pn hz hf).run pins s I⟩) ih
theorem Rel.drop {i : Nat} (r : Rel K g0 g σ s) : Rel K g0 g (σ.set i none) (s.put i .un) := by
  refine r.chg (by rw [List.length_set, List.length_set, r.sl]) fun j x h => ?_
  by_cases z : i = j
  · subst z
    have hi : i < s.ρ.length := by
      have := (List.getElem?_eq_some_iff.mp h).1
      rw [List.length_set] at this
      exact this
    rw [List.getElem?_set_self hi] at h
    cases h
    exact .inl rfl
  · rw [List.getElem?_set_ne z] at h
    exact .inr (.inr ⟨h, by rw [List.getElem?_set_ne z]⟩)
theorem hand_ok {Wout : WX} {D : Ends} {R : RK} {Q : Fl → S → Prop} {hds : List ExceptHandler} {l : List Clause} {vl : List VCl} (h : VHd X hds l vl) (cv : Cov X.K g0 g Wout R) (k : CkS X.K g0 g Q D) {ex : Exn} {cls : Value} {d : Option Addr} {g' : Mo} {s : S}
    (exg : Ext g g') (r : Rel X.K g0 g' σ s) (ea : ExAt X.K g' ex cls d) (q : hand X.K R Q vl ex d s) : wAny X.K Wout D l cls d σ g'.H := by
  induction h with
  | nil => exact cv ex s σ g' cls d r exg ea q
  | @cons x c ts b₀ suite np pos' hds l vl hc hsu rr ih =>
    obtain ⟨b, hb, q⟩ := q
    refine ⟨b, by rw [ea.1]; exact hb, fun e a na => ?_, fun e => ?_⟩
    · subst e
      rw [if_pos rfl] at q
      intro oe pn hz hf
      exact hsu a oe cls d pn hz hf g0 g' σ s R0 Q D r cov0 (k.ext exg) (q a)
    · subst e
      rw [if_neg Bool.false_ne_true] at q
      exact ih q
  | @consAs x n i c ts b₀ suite np pos' hds l vl hi hln hc hsu rr ih =>
    obtain ⟨b, hb, q⟩ := q
    refine ⟨b, by rw [ea.1]; exact hb, fun e a na => ?_, fun e => ?_⟩
    · subst e
      rw [if_pos rfl] at q
      intro oe pn hz hf
      have go : ∀ y, Rp X.K g' y (.ref a) → ts a d R0 (s.put i (.fz y)) (fun f s => match f with
          | .nx => Q .nx (s.put i .un)
          | .bk => Q .bk (s.put i .un)
          | .ct => Q .ct (s.put i .un)
          | .rt x => Q (.rt x) s) → uSs (X.suite a ((a, oe) :: pn)) (b₀ :: suite) (D.un i) (σ.set i (some (.ref a))) g'.H := fun y ry qy => by
        have r2 := r.put (i := i) (x := .fz y) (v := .ref a) ry
        refine hsu a oe cls d pn hz hf g0 g' _ _ R0 _ _ r2 cov0 ⟨fun g2 σ2 s2 r3 ex3 q3 => ?_, fun g2 σ2 s2 r3 ex3 q3 => ?_, fun g2 σ2 s2 r3 ex3 q3 => ?_, fun g2 σ2 s2 v x r3 ex3 tm q3 => ?_⟩ qy
        · exact k.nx g2 _ _ r3.drop (exg.trans ex3) q3
        · exact k.bk g2 _ _ r3.drop (exg.trans ex3) q3
        · exact k.ct g2 _ _ r3.drop (exg.trans ex3) q3
        · exact k.rt g2 _ _ v x r3 (exg.trans ex3) tm q3
      have qa := q a
      obtain ⟨e1, e2⟩ := ea
      unfold xobs at qa
      split at qa
      · rename_i f x p hf2 
        rw [hf2] at e2
        obtain ⟨p', v, e3, h1, h2, rp⟩ := e2
        cases e3
        exact go _ (.xob ⟨h1, h2⟩ rp) qa
      · exact go _ (.raw _) qa
      · exact qa.elim
    · subst e
      rw [if_neg Bool.false_ne_true] at q
      exact ih q
theorem vs_try {body : List Stmt} {h₀ : ExceptHandler} {hds : List ExceptHandler} {l : List Clause} {vl : List VCl} {t : VTS} (hs : X.stack = X.env :: X.outer) (hf : X.env.frame = some X.env.locals) (hN : X.N.Nodup) (tk : Takes X W)
    (hb : ∀ (W : WX) (pn : List (Addr × Obj)) (xe : Value → Shared → Prop), Takes (X.tr pn xe) W → PassesOwn (model X.prog X.w) X.A X.env xe → VSs (X.tr pn xe) W body t)
    (hh : VHd X (h₀ :: hds) l vl) : VS X W (.Try body (h₀ :: hds) [] [] pos) (sTry X.K t vl) := by
  intro g0 g σ s R Q D r cv k q
  refine psu (ps_try_any (tb := fun W' D σ H => ∀ (pn : List (Addr × Obj)) (xe : Value → Shared → Prop), Takes (X.tr pn xe) W' → PassesOwn (model X.prog X.w) X.A X.env xe → uSs (X.tr pn xe) body D σ H) hs hf hN tk
    (fun W' pn xe tk' po => ⟨fun pins sh σ H D I h => (h pn xe tk' po).run pins sh I⟩) hh.hda) ?_
  intro pn xe tk' po
  refine hb _ pn xe tk' po g0 g σ s (fun ex s => ∀ d, (ex.fld = none ↔ d = none) → hand X.K R Q vl ex d s) Q D r (fun ex s' σ' g' cls d r' exg ea hr => ?_) k q
  have hd : ex.fld = none ↔ d = none := by
    obtain ⟨_, e2⟩ := ea
    split at e2
    · rename_i h
      simp [h, e2]
    · rename_i f x h
      obtain ⟨p, v, e3, _⟩ := e2
      simp [h, e3]
  exact hand_ok hh cv k exg r' ea (hr d hd)
end
end VL

/-! V9: dicts that are walked, dict comprehensions, fields of errors, short names of rules. -/
namespace VL
open PySem PySem.Spec PyProof.Rows L2
section
variable {X : Cx} {W : WX} {e a b c o tg iter elt kx vx : Expr} {es rest ifs : List Expr} {ta tb tc t : VT} {tp : VTP} {tr : VTA} {g0 g g' : Mo} {σ : L2.St} {s : S} {R : RK} {pos : Pos} {x : Str} {p cpos apos tpos : Pos} {st : Stmt} {sts : List Stmt} {K : PySem.W.Frag} {d : Addr} {od : Obj} {kvs : List (Key × V)} {i : Nat}
/-! ### the lock -/
open Classical in
noncomputable def lk0 (g0 : Mo) (d : Addr) (o : HO) : Mo := ⟨g0.c, if g0.H d = none then g0.H else upd g0.H d o, g0.α⟩
theorem lk0_none {o : HO} {a : Addr} : (lk0 g0 d o).H a = none ↔ g0.H a = none := by
  unfold lk0
  dsimp only
  split
  · exact Iff.rfl
  · rename_i h
    by_cases z : a = d
    · subst z
      rw [upd_same]
      exact ⟨fun e => (by cases e), fun e => absurd e h⟩
    · rw [upd_ne z]
theorem lk0_at {o : HO} {b : Addr} {u : HO} (h : (lk0 g0 d o).H b = some u) : (b = d ∧ u = o ∧ ∃ u', g0.H d = some u') ∨ (b ≠ d ∧ g0.H b = some u) := by
  by_cases z : b = d
  · subst z
    cases q : g0.H b with
    | none =>
      have := (lk0_none (g0 := g0) (d := b) (o := o) (a := b)).mpr q
      rw [this] at h
      cases h
    | some u' =>
      unfold lk0 at h
      dsimp only at h
      rw [if_neg (by rw [q]; exact fun e => nomatch e), upd_same] at h
      cases h
      exact .inl ⟨rfl, rfl, u', rfl⟩
  · refine .inr ⟨z, ?_⟩
    unfold lk0 at h
    dsimp only at h
    split at h
    · exact h
    · rw [upd_ne z] at h
      exact h
theorem eqv_lock {g : Mo} {o : HO} (hd : ∃ u, g.H d = some u ∧ Eqv u o) : Ext0 g (g.wr d o) := ⟨fun b u q n => ⟨n, by
  show ∃ o', upd _ _ _ _ = some o' ∧ _
  by_cases z : b = d
  · subst z
    obtain ⟨u', h1, h2⟩ := hd
    rw [q] at h1
    cases h1
    exact ⟨o, upd_same, h2⟩
  · exact ⟨u, by rw [upd_ne z]; exact q, .inl rfl⟩⟩, [], by simp [Mo.wr]⟩
theorem eqv_fd : Eqv (.frz od (.dK kvs)) (.dK kvs) := .inr ⟨kvs, .inr ⟨od, rfl⟩, .inl rfl⟩
theorem eqv_df : Eqv (.dK kvs) (.frz od (.dK kvs)) := .inr ⟨kvs, .inl rfl, .inr ⟨od, rfl⟩⟩
/-- the state under another dict's lock -/
theorem Rel.rewr {g0' : Mo} {o : HO} (r : Rel K g0 g σ s) (hc : g.c d = 0) (hd : ∃ u, g.H d = some u ∧ Eqv u o) (kp : Kp g0' (g.wr d o)) (al : ∃ t, g.α = g0'.α ++ t) (hn : ∀ a, g0.H a = none → g0'.H a = none) : Rel K g0' (g.wr d o) σ s where
  kp := kp
  al := al
  ln := r.ln
  nd := r.nd
  ce := fun n cl h => by
    obtain ⟨a, h1, h2, h3⟩ := r.ce n cl h
    refine ⟨a, h1, h2, h3.ext0 (eqv_lock hd) ?_⟩
    show upd _ _ _ _ = _
    rw [upd_ne (fun z => by rw [z, hc] at h2; cases h2)]
  sl := r.sl
  at_ := fun i x h => by
    have q := r.at_ i x h
    cases x with
    | un => trivial
    | fz d =>
      obtain ⟨v, e, w⟩ := q
      exact ⟨v, e, w.ext0 (eqv_lock hd)⟩
    | ow b =>
      obtain ⟨a, e, h2, h3, h4⟩ := q
      refine ⟨a, e, h2, hn a h3, h4.ext0 (eqv_lock hd) ?_⟩
      show upd _ _ _ _ = _
      rw [upd_ne (fun z => by rw [z, hc] at h2; cases h2)]
  dj := r.dj
theorem lock_ok (r : Rel K g0 g σ s) (hc : g.c d = 0) (hd : g.H d = some (.dK kvs)) (od : Obj) :
    Rel K (lk0 g0 d (.frz od (.dK kvs))) (g.wr d (.frz od (.dK kvs))) σ s ∧ ∀ g' σ' s', Rel K (lk0 g0 d (.frz od (.dK kvs))) g' σ' s' → Ext (g.wr d (.frz od (.dK kvs))) g' →
      g'.H d = some (.frz od (.dK kvs)) ∧ Rel K g0 (g'.wr d (.dK kvs)) σ' s' ∧ Ext g (g'.wr d (.dK kvs)) ∧ ∀ v x, Tmp K (lk0 g0 d (.frz od (.dK kvs))) g' σ' s' v x → Tmp K g0 (g'.wr d (.dK kvs)) σ' s' v x := by
  refine ⟨r.rewr hc ⟨_, hd, eqv_df⟩ ⟨fun b o h => ?_, fun b o h n => ?_, fun b o h => ?_⟩ r.al fun a h => lk0_none.mpr h, fun g' σ' s' r' ex => ?_⟩
  · rcases lk0_at h with ⟨rfl, rfl, u', hu⟩ | ⟨ne, h⟩
    · exact r.kp.col _ _ hu
    · exact r.kp.col b o h
  · show upd _ _ _ _ = _
    rcases lk0_at h with ⟨rfl, rfl, u', hu⟩ | ⟨ne, h⟩
    · exact upd_same
    · rw [upd_ne ne]
      exact r.kp.keep b o h n
  · show ∃ o', upd _ _ _ _ = _
    by_cases z : b = d
    · subst z
      exact ⟨_, upd_same⟩
    · rcases lk0_at h with ⟨rfl, _⟩ | ⟨_, h⟩
      · exact absurd rfl z
      · obtain ⟨o', h'⟩ := r.kp.live b o h
        exact ⟨o', by rw [upd_ne z]; exact h'⟩
  · obtain ⟨c1, h1⟩ := ex.fx d _ upd_same (.inl hc)
    have hc' : g'.c d = 0 := c1.trans hc
    have live0 : ∀ {b o}, g0.H b = some o → ∃ o', (lk0 g0 d (.frz od (.dK kvs))).H b = some o' := fun {b o} h => by
      cases q : (lk0 g0 d (.frz od (.dK kvs))).H b with
      | some o' => exact ⟨o', rfl⟩
      | none =>
        rw [lk0_none.mp q] at h
        cases h
    have kpu : Kp g0 (g'.wr d (.dK kvs)) := by
      refine ⟨fun b o h => ?_, fun b o h n => ?_, fun b o h => ?_⟩
      · obtain ⟨o', h'⟩ := live0 h
        exact r'.kp.col b o' h'
      · show upd _ _ _ _ = _
        by_cases z : b = d
        · subst z
          rw [upd_same]
          have := r.kp.keep b o h n
          rw [hd] at this
          exact this
        · rw [upd_ne z]
          obtain ⟨o', h'⟩ := live0 h
          rcases lk0_at h' with ⟨e, _⟩ | ⟨_, h2⟩
          · exact absurd e z
          · rw [h] at h2
            cases h2
            exact r'.kp.keep b o h' n
      · show ∃ o', upd _ _ _ _ = _
        by_cases z : b = d
        · subst z
          exact ⟨_, upd_same⟩
        · obtain ⟨o', h'⟩ := live0 h
          obtain ⟨o2, h2⟩ := r'.kp.live b o' h'
          exact ⟨o2, by rw [upd_ne z]; exact h2⟩
    have hdu : ∃ u, g'.H d = some u ∧ Eqv u (.dK kvs) := ⟨_, h1, eqv_fd⟩
    refine ⟨h1, r'.rewr hc' hdu kpu r'.al fun a h => lk0_none.mp h, ⟨fun b o h n => ?_, ?_⟩, fun v x tm => ?_⟩
    · show g'.c b = g.c b ∧ upd _ _ _ _ = _
      by_cases z : b = d
      · subst z
        rw [hd] at h
        cases h
        exact ⟨c1, upd_same⟩
      · obtain ⟨c2, h2⟩ := ex.fx b o (by show upd _ _ _ _ = _; rw [upd_ne z]; exact h) n
        exact ⟨c2, by rw [upd_ne z]; exact h2⟩
    · exact ex.al
    · cases x with
      | un => exact tm
      | fz y => exact Rp.ext0 (eqv_lock hdu) tm
      | ow b =>
        obtain ⟨a, e, h2, h0, hb, n⟩ := tm
        refine ⟨a, e, h2, lk0_none.mp h0, hb.ext0 (eqv_lock hdu) ?_, n⟩
        show upd _ _ _ _ = _
        rw [upd_ne (fun z => by rw [z, hc'] at h2; cases h2)]
/-- the keys of a dict that is walked -/
def keysD (ks : List (Key × Dv)) : List Dv := ks.map fun q => kD q.1
theorem it_keys {gI : Mo} {ks : List (Key × Dv)} {chk : S → Prop} (hc : gI.c d = 0) (hd : gI.H d = some (.frz od (.dK kvs))) (rk : Rpk K gI ks kvs) : ItOk K g0 gI (keysD ks) chk (Itk d od kvs) := by
  intro g σ s i r ex ck hi
  obtain ⟨_, hd2⟩ := ex.fx d _ hd (.inl hc)
  have hl : (keysD ks).length = kvs.length := by unfold keysD; rw [List.length_map, rk.len]
  refine ⟨fun e => ⟨hd2, by omega⟩, fun y hy => ?_⟩
  have hin : i < kvs.length := by
    have := (List.getElem?_eq_some_iff.mp hy).1
    omega
  refine ⟨⟨hd2, hin⟩, fun z H' q => ?_⟩
  obtain ⟨rfl, k, v, e1, rfl⟩ := q
  have rs := (rk.ext ex).keys
  obtain ⟨w, hw, rp⟩ := rs.get hy
  rw [List.getElem?_map, e1] at hw
  cases hw
  exact ⟨g, rfl, r, Ext.refl, rp⟩
def sForK (i : Nat) (tg : VTG) (body : VTS) : VTS := fun _ s Q => match s.ρ[i]? with
  | some (.fz (.dic ks)) => forV (fun _ => True) tg body R0 Q (keysD ks) s
  | some (.ow (.dic ks)) => forV (fun _ => True) tg body R0 Q (keysD ks) (s.put i (.fz (.dic ks)))
  | _ => False
theorem vs_forK {u : VTG} {body : VTS} (hp : PassesOwn (model X.prog X.w) X.A X.env X.xe) (hc : X.calm = true) (hN : X.N[i]? = some x) (hv : Vis X.env.scope x) (hg : VG X tg u) (hb : VSs X W0 sts body)
    (hs : ∀ z, foldedSetIterable (.Name x p) X.env z = pure z := by intro _; rfl) (hdb : (x == ("__debug__" : Str)) = false := by decide) (hcd : (x == ("__classdict__" : Str)) = false := by decide) : VS X W (.For tg (.Name x p) sts [] pos) (sForK i u body) := by
  intro g0 g σ s R Q D r cv k q
  have go : ∀ g s ks, Rel X.K g0 g σ s → CkS X.K g0 g Q D → (∃ d kvs, σ[i]? = some (some (.ref d)) ∧ g.c d = 0 ∧ Rd g.H d (.dK kvs) ∧ Rpk X.K g ks kvs) → forV (fun _ => True) u body R0 Q (keysD ks) s → uS X (.For tg (.Name x p) sts [] pos) D σ g.H := by
    intro g s ks r k ⟨d, kvs, e, hc0, hrd, rk⟩ q
    have base := ps_for (body := sts) hp hc (pi_keys (pe_var (pos := p) hN hv hdb hcd)) (pg_u (X := X) (e := tg)) pss_u (pos := pos) hs
    rcases hrd with hd | ⟨od, hd⟩
    · refine psu (ps_lock base) ⟨d, _, hd, trivial, fun od => ?_⟩
      obtain ⟨rl, back⟩ := lock_ok r hc0 hd od
      have rkl : Rpk X.K (g.wr d (.frz od (.dK kvs))) ks kvs := rk.ext0 (eqv_lock ⟨_, hd, eqv_df⟩)
      refine ⟨.ref d, e, d, od, rfl, .inl ⟨kvs, upd_same, for_core (gI := g.wr d (.frz od (.dK kvs))) hg hb cov0 ⟨fun g' σ' s' r' ex q' => ?_, fun g' σ' s' r' ex q' => ?_, fun g' σ' s' r' ex q' => ?_, fun g' σ' s' v y r' ex tm q' => ?_⟩ rl (it_keys hc0 upd_same rkl) q⟩⟩
      · obtain ⟨h1, h2, h3, _⟩ := back g' σ' s' r' ex
        exact ⟨h1, k.nx _ σ' s' h2 h3 q'⟩
      · obtain ⟨h1, h2, h3, _⟩ := back g' σ' s' r' ex
        exact ⟨h1, k.bk _ σ' s' h2 h3 q'⟩
      · obtain ⟨h1, h2, h3, _⟩ := back g' σ' s' r' ex
        exact ⟨h1, k.ct _ σ' s' h2 h3 q'⟩
      · obtain ⟨h1, h2, h3, h4⟩ := back g' σ' s' r' ex
        exact ⟨h1, k.rt _ σ' s' v y h2 h3 (h4 v y tm) q'⟩
    · exact psu base ⟨.ref d, e, d, od, rfl, .inl ⟨kvs, hd, for_core hg hb cov0 k r (it_keys hc0 hd rk) q⟩⟩
  unfold sForK at q
  split at q
  · rename_i ks h
    obtain ⟨v, e, rp⟩ := r.at_ i _ h
    cases rp with
    | dic hd rk => exact go g s ks r k ⟨_, _, e, hd.1, hd.2, rk⟩ q
  · rename_i ks h
    obtain ⟨a, e, r', ex, rp⟩ := r.fzslot h
    cases rp with
    | dic hd rk => exact go (g.col a 0) _ ks r' (k.ext ex) ⟨_, _, e, hd.1, hd.2, rk⟩ q
  · exact q.elim
/-- [.. for k in d] -/
def vCompK (vs : List Nat) (i : Nat) (ct : CT) (tt : VTC) (te : VT) : VT := fun _ s Q => match s.ρ[i]? with
  | some (.fz (.dic ks)) => compV vs (fun _ => True) ct tt te (fun acc s' => Q (.ow (.lst acc)) (s'.rest s.ρ vs)) (keysD ks) [] (s.wipe vs)
  | _ => False
theorem ve_lcK {scope : Scope} {own : List (Str × Nat)} {tt : VTC} {te : VT} (ct : CT) (hc : X.calm = true) (hN : X.N.Nodup) (hi : X.N[i]? = some x) (hv : Vis X.env.scope x) (ok : BlkOk X.N X.env.scope scope own)
    (hg : ∀ (s : Shared) (H : Hp) (C : Addr) (cl : List (Str × Addr)) (fp : List Addr), PG (X.blk s H scope (compEnvC scope cl C X.env) fp) tg (ct.g X.K))
    (ht : ∀ (s : Shared) (H : Hp) (C : Addr) (cl : List (Str × Addr)) (fp : List Addr), VTs (X.blk s H scope (compEnvC scope cl C X.env) fp) W0 ifs tt)
    (he : ∀ (s : Shared) (H : Hp) (C : Addr) (cl : List (Str × Addr)) (fp : List Addr), VE (X.blk s H scope (compEnvC scope cl C X.env) fp) W0 elt te)
    (hix : ∀ i ∈ ct.ix, i ∈ own.map (·.2) := by decide) (hs : ∀ z, foldedSetIterable (.Name x p) X.env z = pure z := by intro _; rfl) (hdb : (x == ("__debug__" : Str)) = false := by decide) (hcd : (x == ("__classdict__" : Str)) = false := by decide) :
    VE X W (.ListComp elt [⟨tg, .Name x p, ifs, 0⟩] scope pos) (vCompK (own.map (·.2)) i ct tt te) := by
  intro g0 g σ s R Q QV r cv k q
  unfold vCompK at q
  split at q
  · rename_i ks h
    obtain ⟨v, e, rp⟩ := r.at_ i _ h
    cases rp with
    | @dic d _ kvs hd rk =>
    have base := pe_lc (own := own) hc hN (pi_keys (pe_var (pos := p) hi hv hdb hcd)) ok hg pts_ub pe_ub hs (pos := pos) (ifs := ifs) (elt := elt)
    obtain ⟨hc0, hrd⟩ := hd
    rcases hrd with hd | ⟨od, hd⟩
    · refine peu (pe_lock base) ⟨d, _, hd, trivial, fun od => ?_⟩
      obtain ⟨rl, back⟩ := lock_ok r hc0 hd od
      have rkl : Rpk X.K (g.wr d (.frz od (.dK kvs))) ks kvs := rk.ext0 (eqv_lock ⟨_, hd, eqv_df⟩)
      refine ⟨.ref d, e, d, od, rfl, .inl ⟨kvs, upd_same, comp_in (gI := g.wr d (.frz od (.dK kvs))) (Q := Q) (QV := fun v H' => H' d = some (.frz od (.dK kvs)) ∧ QV v (upd H' d (.dK kvs))) hix ht he rl (fun g' s' v y r' ex tm q' => ?_) (it_keys hc0 upd_same rkl) q⟩⟩
      obtain ⟨h1, h2, h3, h4⟩ := back g' σ s' r' ex
      exact ⟨h1, k _ s' v y h2 h3 (h4 v y tm) q'⟩
    · exact peu base ⟨.ref d, e, d, od, rfl, .inl ⟨kvs, hd, comp_in hix ht he r k (it_keys hc0 hd rk) q⟩⟩
  · exact q.elim
/-! ### dict comprehensions -/
def dcompV (vs : List Nat) (chk : S → Prop) (ct : CT) (tt : VTC) (tk te : VT) (Q : List (Key × Dv) → S → Prop) : List Dv → List (Key × Dv) → S → Prop
  | [], acc, s => chk s ∧ Q acc s
  | d :: ds, acc, s => chk s ∧ ct.v d s fun s => tt R0 s fun b s => br b (tk R0 s fun y s => te R0 s fun x s => acc.length < sizeLine ∧ match y.d.key with
      | some q => dcompV vs chk ct tt tk te Q ds (putD acc q x.d) (s.wipe vs)
      | none => False)
    (dcompV vs chk ct tt tk te Q ds acc (s.wipe vs))
def vDComp (vs : List Nat) (it : VTI) (ct : CT) (tt : VTC) (tk te : VT) : VT := fun R s Q => it R s fun items chk s => dcompV vs chk ct tt tk te (fun acc s' => Q (.ow (.dic acc)) (s'.rest s.ρ vs)) items [] (s.wipe vs)
theorem ve_dc {scope : Scope} {own : List (Str × Nat)} {it : VTI} {tt : VTC} {tk te : VT} (ct : CT) (hc : X.calm = true) (hN : X.N.Nodup) (hi : VI X W tg iter it) (ok : BlkOk X.N X.env.scope scope own)
    (hg : ∀ (s : Shared) (H : Hp) (C : Addr) (cl : List (Str × Addr)) (fp : List Addr), PG (X.blk s H scope (compEnvC scope cl C X.env) fp) tg (ct.g X.K))
    (ht : ∀ (s : Shared) (H : Hp) (C : Addr) (cl : List (Str × Addr)) (fp : List Addr), VTs (X.blk s H scope (compEnvC scope cl C X.env) fp) W0 ifs tt)
    (hk : ∀ (s : Shared) (H : Hp) (C : Addr) (cl : List (Str × Addr)) (fp : List Addr), VE (X.blk s H scope (compEnvC scope cl C X.env) fp) W0 kx tk)
    (he : ∀ (s : Shared) (H : Hp) (C : Addr) (cl : List (Str × Addr)) (fp : List Addr), VE (X.blk s H scope (compEnvC scope cl C X.env) fp) W0 vx te)
    (hix : ∀ i ∈ ct.ix, i ∈ own.map (·.2) := by decide) (hs : ∀ x, foldedSetIterable iter X.env x = pure x := by intro _; rfl) : VE X W (.DictComp kx vx [⟨tg, iter, ifs, 0⟩] scope pos) (vDComp (own.map (·.2)) it ct tt tk te) := by
  intro g0 g σ s R Q QV r cv k q
  refine peu (pe_dc hc hN pi_u ok hg pts_ub pe_ub pe_ub hs) ?_
  generalize own.map (·.2) = vs at *
  refine hi g0 g σ s R _ _ r cv (fun gI sI items chk J rI exI ok qI => ?_) q
  have k := k.ext exI
  intro D hD
  have g0D : g0.H D = none := rI.kp.fresh hD
  refine ⟨fun i m H => m = items.length - i ∧ i ≤ items.length ∧ ∃ g s acc us, g.H = H ∧ Rel X.K g0 g (L2.wipe σ vs) s ∧ Ext gI g ∧ g.c D = 3 ∧ g.H D = some (.dK us) ∧ Rpk X.K g acc us ∧
      dcompV vs chk ct tt tk te (fun acc s' => Q (.ow (.dic acc)) (s'.rest sI.ρ vs)) (items.drop i) acc s, ⟨items.length, by omega, Nat.zero_le _, gI.new D 3 (.dK []), sI.wipe vs, [], [], rfl, (rI.new hD).wipe vs, ext_new hD, cst_same, upd_same, .nil, qI⟩, ?_⟩
  rintro i m H ⟨rfl, hil, g1, s1, acc, us, rfl, r1, ex1, c1, hD1, rs1, q1⟩
  by_cases hlt : i < items.length
  · have e : items[i]? = some items[i] := List.getElem?_eq_getElem hlt
    have e2 : items.drop i = items[i] :: items.drop (i + 1) := List.drop_eq_getElem_cons hlt
    rw [e2] at q1
    obtain ⟨hck, q1⟩ := q1
    obtain ⟨_, ho⟩ := ok g1 _ s1 i r1 ex1 hck hil
    obtain ⟨hgo, hy⟩ := ho _ e
    refine .inr ⟨hgo, fun H' => i + 1 ≤ items.length ∧ ∃ g s acc us, g.H = H' ∧ Rel X.K g0 g (L2.wipe σ vs) s ∧ Ext gI g ∧ g.c D = 3 ∧ g.H D = some (.dK us) ∧ Rpk X.K g acc us ∧
      dcompV vs chk ct tt tk te (fun acc s' => Q (.ow (.dic acc)) (s'.rest sI.ρ vs)) (items.drop (i + 1)) acc s, fun H' h => ⟨items.length - (i + 1), by omega, rfl, h⟩, fun x H' y => ?_⟩
    obtain ⟨g2, rfl, r2, ex2, rp⟩ := hy x H' y
    obtain ⟨c2, hD2⟩ := ex2.fx D _ hD1 (.inr c1)
    refine ct_ok hix r2 rp q1 (fun σ3 s3 r3 ew q3 => ?_)
    refine ⟨ew.trans wipe_wipe, ?_⟩
    intro sh Hb C cl fp
    refine ht sh Hb C cl fp g0 g2 σ3 s3 R0 _ _ r3 cov0 (fun g4 s4 b r4 ex4 q4 => ?_) q3
    have ew' : L2.wipe σ3 vs = L2.wipe σ vs := ew.trans wipe_wipe
    obtain ⟨c4, hD4⟩ := ex4.fx D _ hD2 (.inr (by rw [c2]; exact c1))
    have c4' : g4.c D = 3 := by rw [c4, c2]; exact c1
    cases b with
    | true =>
      rw [if_pos rfl]
      have q4 := br_t q4
      intro sh2 Hb2 C2 cl2 fp2
      refine (hk sh2 Hb2 C2 cl2 fp2).fz (Q := fun y s => te R0 s fun x s => acc.length < sizeLine ∧ match y.key with
        | some q => dcompV vs chk ct tt tk te (fun acc s' => Q (.ow (.dic acc)) (s'.rest sI.ρ vs)) (items.drop (i + 1)) (putD acc q x.d) (s.wipe vs)
        | none => False) r4 cov0 (fun g5 s5 wk dk r5 ex5 rpk q5 => ?_) q4
      obtain ⟨c5, hD5⟩ := ex5.fx D _ hD4 (.inr c4')
      have c5' : g5.c D = 3 := by rw [c5]; exact c4'
      intro sh3 Hb3 C3 cl3 fp3
      refine (he sh3 Hb3 C3 cl3 fp3).fz (Q := fun x s => acc.length < sizeLine ∧ match dk.key with
        | some q => dcompV vs chk ct tt tk te (fun acc s' => Q (.ow (.dic acc)) (s'.rest sI.ρ vs)) (items.drop (i + 1)) (putD acc q x) (s.wipe vs)
        | none => False) r5 cov0 (fun g6 s6 w d r6 ex6 rp6 q6 => ?_) q5
      obtain ⟨c6, hD6⟩ := ex6.fx D _ hD5 (.inr c5')
      have c6' : g6.c D = 3 := by rw [c6]; exact c5'
      obtain ⟨hl, q6⟩ := q6
      split at q6
      · rename_i kq hkq
        have ek := rpk.key hkq
        have exz : Ext0 g6 (g6.wr D (.dK (putK us kq w))) := ext0_wr3 (.inl c6')
        have rs6 : Rpk X.K g6 acc us := (((rs1.ext ex2).ext ex4).ext ex5).ext ex6
        refine ⟨us, kq, ek, hD6, by rw [← rs1.len]; exact hl, hlt, g6.wr D (.dK (putK us kq w)), s6.wipe vs, putD acc kq d, putK us kq w, rfl, (r6.rewipe ew').wr3 c6' g0D, ext_wrD hD ((((ex1.trans ex2).trans ex4).trans ex5).trans ex6), c6', upd_same, ?_, q6⟩
        exact (rs6.put rp6).ext0 exz
      · exact q6.elim
    | false =>
      rw [if_neg Bool.false_ne_true]
      have q4 := br_f q4
      exact ⟨hlt, g4, s4.wipe vs, acc, us, rfl, r4.rewipe ew', (ex1.trans ex2).trans ex4, c4', hD4, (rs1.ext ex2).ext ex4, q4⟩
  · have e : i = items.length := by omega
    subst e
    rw [List.drop_length] at q1
    obtain ⟨hck, q1⟩ := q1
    obtain ⟨hstop, _⟩ := ok g1 _ s1 _ r1 ex1 hck hil
    refine .inl ⟨hstop rfl, ?_⟩
    have r2 := r1.restore rI ex1.z
    obtain ⟨r3, ex3⟩ := r2.col3 c1 g0D
    refine k (g1.col D 2) _ (.ref D) (.ow (.dic acc)) r3 (ext_colD hD ex1) ⟨D, rfl, cst_same, g0D, ⟨us, hD1, rs1.ext0 ex3⟩, fun j b' h1 h2 => ?_⟩ q1
    obtain ⟨_, _, h3, _⟩ := slot_live r2 h1 h2
    rw [c1] at h3
    cases h3
/-! ### a caught error's field -/
def vXf (a : Addr) (cls : Value) (d : Option Addr) (C : Addr) (f : Str) (t : VT) : VT := fun R s Q => t R s fun x s => match x.d with
  | .xob a' p f' y => a' = a ∧ cls = .ref C ∧ d = some p ∧ f' = f ∧ Q (.fz y) s
  | _ => False
theorem ve_xf {a C : Addr} {oe : Obj} {cls : Value} {d : Option Addr} {pn : List (Addr × Obj)} {n : Str} (T : XfC X.K C) (hno : PySem.W.findIn X.K (.ref C) n = some none) (hz : Zc cls d oe) (hf : ∃ vs, oe.data = .fields vs)
    (h : VE (X.suite a ((a, oe) :: pn)) W e t) (hb : attributeBase e n X.env (eval e X.env) = eval e X.env := by rfl) : VE (X.suite a ((a, oe) :: pn)) W (.Attribute e n pos) (vXf a cls d C n t) := by
  intro g0 g σ s R Q QV r cv k q
  refine peu (pe_xf T hno hz hf pe_u hb) (h.fz (Q := fun x s => match x with | .xob a' p f' y => a' = a ∧ cls = .ref C ∧ d = some p ∧ f' = n ∧ Q (.fz y) s | _ => False) r cv (fun g' s' v y r' ex rp q' => ?_) q)
  dsimp only at q'
  split at q'
  · obtain ⟨rfl, e1, e2, rfl, q2⟩ := q'
    cases rp with
    | xob hh rp =>
    exact ⟨rfl, e1, _, _, _, e2, hh.2, by simp [List.lookup], k g' s' _ (.fz _) r' ex rp q2⟩
  · exact q'.elim
/-! ### short names -/
theorem vn (i : Nat) (hN : X.N[i]? = some x := by rfl) (hv : Vis X.env.scope x := by first | exact Or.inl rfl | exact Or.inr (Or.inl rfl) | exact Or.inr (Or.inr rfl)) (hd : (x == ("__debug__" : Str)) = false := by decide)
    (hcd : (x == ("__classdict__" : Str)) = false := by decide) : VE X W (.Name x pos) (vVar i) := ve_name hN hv hd hcd
theorem vpn (i : Nat) (hN : X.N[i]? = some x := by rfl) (hv : Vis X.env.scope x := by first | exact Or.inl rfl | exact Or.inr (Or.inl rfl) | exact Or.inr (Or.inr rfl)) (hd : (x == ("__debug__" : Str)) = false := by decide)
    (hcd : (x == ("__classdict__" : Str)) = false := by decide) : VP X W (.Name x pos) (pVar i) := vp_name hN hv hd hcd
/-- a built-in class as a value -/
theorem ve_bty {T : String} (hg : Gl X x) (hm : X.mg x = none) (hv : bootBuiltins x = some (.type T)) (hn : x ≠ "__name__" := by decide) (hd : (x == ("__debug__" : Str)) = false := by decide) : VE X W (.Name x pos) (vC (.ty T)) := ve_con (pe_bltn (v := .ty T) hg hm hv rfl hn hd) fun _ => .ty T
/-- a module's constant -/
theorem ve_glob {v : V} {u : Value} {y : Dv} (hg : Gl X x) (hm : X.mg x = some u) (r : RelV v u) (h : ∀ g, Rp X.K g y v) (hd : (x == ("__debug__" : Str)) = false := by decide) : VE X W (.Name x pos) (vC y) := ve_con (pe_glob hg hm r hd) h
end
end VL

/-! X1: readings over plain states, one step at a time. -/
namespace VL
open PySem PySem.Spec PyProof.Rows L2
section
variable {R : RK} {s : S} {Q : Fl → S → Prop} {QE : Sl → S → Prop} {QC : Bool → S → Prop} {QA : List Dv → S → Prop} {QP : Pl → S → Prop} {t u : VTS} {ta tb tc te to : VT} {ca cb : VTC} {tr : VTA} {tp : VTP} {it : VTI} {tg : VTG} {d : Dv} {i j : Nat} {ρ : List Sl} {st : List Cl} {x : Sl} {b : Bd} {K : PySem.W.Frag}
theorem x_seq (h : t R s fun f s => match f with | .nx => u R s Q | .bk => Q .bk s | .ct => Q .ct s | .rt x => Q (.rt x) s) : sSeq t u R s Q := h
theorem x_nil (h : Q .nx s) : sNil R s Q := h
theorem x_break (h : Q .bk s) : sBreak R s Q := h
theorem x_cont (h : Q .ct s) : sCont R s Q := h
theorem x_drop (h : ta R s fun _ s => Q .nx s) : sDrop ta R s Q := h
theorem x_ret (h : ta R s fun x s => Q (.rt x) s) : sRet ta R s Q := h
theorem x_retN (h : Q (.rt (.fz .non)) s) : sRetN R s Q := h
theorem x_if (h : ca R s fun b s => br b (t R s Q) (u R s Q)) : sIf ca t u R s Q := h
theorem x_set (h : ta R s fun x s => Q .nx (s.put i x)) : sSet i ta R s Q := h
theorem x_asg (h : ta R s fun x s => tg x s fun s => Q .nx s) : sAsg ta tg R s Q := h
theorem x_gnm {QS : S → Prop} (h : QS (s.put i x)) : gNm i x s QS := h
theorem x_gtu {QS : S → Prop} {n : Nat} {gs : VTGs} {ds : List Dv} (hl : ds.length = n) (h : gs ds s QS) : gTu n gs (.fz (.tup ds)) s QS := ⟨hl, h⟩
theorem x_gsn {QS : S → Prop} (h : QS s) : gsNil [] s QS := h
theorem x_gsc {QS : S → Prop} {g : VTG} {gs : VTGs} {ds : List Dv} (h : g (.fz d) s fun s => gs ds s QS) : gsCons g gs (d :: ds) s QS := h
theorem x_for (h : it R s fun items chk s => forV chk tg u R Q items s) : sFor it tg u R s Q := h
theorem x_var (e : s.ρ[i]? = some (.fz d)) (h : QE (.fz d) s) : vVar i R s QE := by unfold vVar; rw [e]; exact h
theorem x_varO (e : s.ρ[i]? = some (.ow b)) (h : QE (.fz b.d) (s.put i (.fz b.d))) : vVar i R s QE := by unfold vVar; rw [e]; exact h
theorem x_pvar (e : s.ρ[i]? = some (.fz d)) (h : QP (.slot i) s) : pVar i R s QP := by unfold pVar; rw [e]; exact h
theorem x_pvarO (e : s.ρ[i]? = some (.ow b)) (h : QP (.slot i) s) : pVar i R s QP := by unfold pVar; rw [e]; exact h
theorem x_pval (h : ta R s fun x s' => QP (.val x.d) s') : pVal ta R s QP := h
theorem x_con (h : QE (.fz d) s) : vC d R s QE := h
theorem x_bin {F : Dv → Dv → (Sl → Prop) → Prop} (h : ta R s fun x s => tb R s fun y s => F x.d y.d fun z => QE z s) : vBin F ta tb R s QE := h
theorem x_un {F : Dv → (Sl → Prop) → Prop} (h : ta R s fun x s => F x.d fun z => QE z s) : vUn F ta R s QE := h
theorem x_in {n : Bool} (h : ta R s fun x s => tp R s fun p s => look s p fun y => inD x.d y fun b => QE (.fz (.bl (if n then !b else b))) s) : vIn n ta tp R s QE := h
theorem x_isN {n : Bool} (h : ta R s fun x s => match x.d.isNon with | some b => QE (.fz (.bl (if n then !b else b))) s | none => False) : vIsN n ta R s QE := h
theorem x_chain {F F' : Dv → Dv → (Sl → Prop) → Prop} (h : ta R s fun x s => tb R s fun y s => F x.d y.d fun z => blD z fun b => br b (tc R s fun w s => F' y.d w.d fun z' => QE z' s) (QE (.fz (.bl false)) s)) : vChain F F' ta tb tc R s QE := h
theorem x_bl {k : Bool → Prop} {b : Bool} (h : k b) : blD (.fz (.bl b)) k := h
theorem x_and (h : ta R s fun x s => blD x fun b => br b (tb R s QE) (QE (.fz (.bl false)) s)) : vAnd ta tb R s QE := h
theorem x_or (h : ta R s fun x s => blD x fun b => br b (QE (.fz (.bl true)) s) (tb R s QE)) : vOr ta tb R s QE := h
theorem x_not (h : ta R s fun x s => blD x fun b => QE (.fz (.bl (!b))) s) : vNot ta R s QE := h
theorem x_ife (h : ca R s fun c s => br c (ta R s QE) (tb R s QE)) : vIf ca ta tb R s QE := h
theorem x_cval (h : ta R s fun x s => blD x fun b => QC b s) : cVal ta R s QC := h
theorem x_cand (h : ca R s fun b s => br b (cb R s QC) (QC false s)) : cAnd ca cb R s QC := h
theorem x_cor (h : ca R s fun b s => br b (QC true s) (cb R s QC)) : cOr ca cb R s QC := h
theorem x_cnot (h : ca R s fun b s => QC (!b) s) : cNot ca R s QC := h
theorem x_ctru (h : tp R s fun p s => look s p fun d => truD d fun b => QC b s) : cTru tp R s QC := h
theorem x_cyes (h : QC true s) : cYes R s QC := h
theorem x_anil (h : QA [] s) : aNil R s QA := h
theorem x_acons (h : ta R s fun x s => tr R s fun ds s => QA (x.d :: ds) s) : aCons ta tr R s QA := h
theorem x_lst (h : tr R s fun ds s => ds.length ≤ sizeLine ∧ QE (.ow (.lst ds)) s) : vLst tr R s QE := h
theorem x_tup (h : tr R s fun ds s => ds.length ≤ sizeLine ∧ QE (.fz (.tup ds)) s) : vTup tr R s QE := h
theorem x_dic0 (h : QE (.ow (.dic [])) s) : vDic0 R s QE := h
theorem x_ix (h : tp R s fun p s => te R s fun i s => look s p fun y => ixD y i.d fun d => QE (.fz d) s) : vIx tp te R s QE := h
theorem x_sl {tl th : VTO} (h : tp R s fun p s => tl R s fun lo s => th R s fun hi s => look s p fun y => slD y lo hi fun x => QE x s) : vSl tp tl th R s QE := h
theorem x_onone {QO : Option Int → S → Prop} (h : QO none s) : oNone R s QO := h
theorem x_osome {QO : Option Int → S → Prop} (h : ta R s fun x s => match x.d with | .int i => QO (some i) s | _ => False) : oSome ta R s QO := h
theorem x_b1 {F : Dv → (Sl → Prop) → Prop} (h : tp R s fun p s => look s p fun d => F d fun x => QE x s) : vB1 F tp R s QE := h
theorem x_bn {F : List Dv → (Sl → Prop) → Prop} (h : tr R s fun ds s => F ds fun x => QE x s) : vBn F tr R s QE := h
theorem x_mr {T : String} {F : Dv → List Dv → (Sl → Prop) → Prop} (h : tp R s fun p s => look s p (tyD T) ∧ tr R s fun ds s => look s p fun y => F y ds fun x => QE x s) : vMr T F tp tr R s QE := h
theorem x_mu {T : String} {F : Bd → List Dv → (Dv → Bd → Prop) → Prop} (h : tp R s fun p s => look s p (tyD T) ∧ tr R s fun ds s => mutAt s p fun b f => F b ds fun d b' => QE (.fz d) (f b')) : vMu T F tp tr R s QE := h
theorem x_six (h : ta R s fun x s => tp R s fun p s => te R s fun i s => mutAt s p fun b f => setD b i.d x.d fun b' => Q .nx (f b')) : sIx tp te ta R s Q := h
theorem x_call {F : VSp} (h : tr R s fun ds s => F ds s.st (fun y st' => QE y { s with st := st' }) fun ex st' => R ex { s with st := st' }) : vCall F tr R s QE := h
theorem x_box (h : ta R s fun x s => match x with | .ow b => QE (.fz (.obj s.st.length)) { s with st := s.st ++ [.bd b] } | _ => False) : vBox ta R s QE := h
theorem x_par (h : tr R s fun ds s => match ds with | [x, y] => Q .nx ((s.put i (.fz x)).put j (.fz y)) | _ => False) : sPar i j tr R s Q := h
theorem x_comp {vs : List Nat} {ct : CT} {tt : VTC} (h : it R s fun items chk s => compV vs chk ct tt te (fun acc s' => QE (.ow (.lst acc)) (s'.rest s.ρ vs)) items [] (s.wipe vs)) : vComp vs it ct tt te R s QE := h
theorem x_ilst {QI : List Dv → (S → Prop) → S → Prop} (h : ta R s fun x s => match x.d with | .lst ds => QI ds (fun _ => True) s | .obj n => (match s.st[n]? with | some (.bd (.lst ds)) => QI ds (fun s' => s'.st[n]? = some (.bd (.lst ds))) s | _ => False) | _ => False) : iLst ta R s QI := h
theorem x_itpl {QI : List Dv → (S → Prop) → S → Prop} (h : ta R s fun x s => match x.d with | .tup ds => QI ds (fun _ => True) s | _ => False) : iTpl ta R s QI := h
theorem x_isgn {QI : List Dv → (S → Prop) → S → Prop} (h : ta R s fun x s => match x.d with | .str z => QI (signs z) (fun _ => True) s | _ => False) : iSgn ta R s QI := h
theorem x_irg1 {QI : List Dv → (S → Prop) → S → Prop} (h : tr R s fun ds s => match ds with | [.int j] => -(2 ^ 62) ≤ j ∧ j < 2 ^ 62 ∧ QI (rangeD 0 j.toNat) (fun _ => True) s | _ => False) : iRg1 tr R s QI := h
theorem x_irg2 {QI : List Dv → (S → Prop) → S → Prop} (h : tr R s fun ds s => match ds with | [.int i, .int j] => (-(2 ^ 62) ≤ i ∧ i < 2 ^ 62 ∧ -(2 ^ 62) ≤ j ∧ j < 2 ^ 62) ∧ QI (rangeD i (j - i).toNat) (fun _ => True) s | _ => False) : iRg2 tr R s QI := h
theorem x_izpt {QI : List Dv → (S → Prop) → S → Prop} (h : tr R s fun ds s => match ds with | [.tup xs, .tup ys] => QI (zipD xs ys) (fun _ => True) s | _ => False) : iZpt tr R s QI := h
theorem x_izpp {QI : List Dv → (S → Prop) → S → Prop} (h : tr R s fun ds s => match ds with | [.lst xs, .lst ys] => QI (zipD xs ys) (fun _ => True) s | _ => False) : iZpp tr R s QI := h
/-! places -/
theorem x_lkV {k : Dv → Prop} (h : k (rslv s.st d)) : look s (.val d) k := h
theorem x_lkF {k : Dv → Prop} (e : s.ρ[i]? = some (.fz d)) (h : k (rslv s.st d)) : look s (.slot i) k := by unfold look; dsimp only; rw [e]; exact h
theorem x_lkO {k : Dv → Prop} (e : s.ρ[i]? = some (.ow b)) (h : k b.d) : look s (.slot i) k := by unfold look; dsimp only; rw [e]; exact h
theorem x_muO {k : Bd → (Bd → S) → Prop} (e : s.ρ[i]? = some (.ow b)) (h : k b fun b' => s.put i (.ow b')) : mutAt s (.slot i) k := by unfold mutAt; dsimp only; rw [e]; exact h
theorem x_muF {k : Bd → (Bd → S) → Prop} {n : Nat} (e : s.ρ[i]? = some (.fz (.obj n))) (e2 : s.st[n]? = some (.bd b)) (h : k b fun b' => s.cell n (.bd b')) : mutAt s (.slot i) k := by unfold mutAt; dsimp only; rw [e]; dsimp only; rw [e2]; exact h
theorem x_muV {k : Bd → (Bd → S) → Prop} {n : Nat} (e2 : s.st[n]? = some (.bd b)) (h : k b fun b' => s.cell n (.bd b')) : mutAt s (.val (.obj n)) k := by unfold mutAt; dsimp only; rw [e2]; exact h
end
/-! operators -/
section
variable {Q : Sl → Prop} {k : Bool → Prop} {kd : Dv → Prop}
theorem y_addI {a b : Int} (h : Q (.fz (.int (a + b)))) : addD (.int a) (.int b) Q := h
theorem y_addS {a b : Str} (l : a.length + b.length ≤ sizeLine) (h : Q (.fz (.str (a ++ b)))) : addD (.str a) (.str b) Q := ⟨l, h⟩
theorem y_addL {a b : List Dv} (l : a.length + b.length ≤ sizeLine) (h : Q (.ow (.lst (a ++ b)))) : addD (.lst a) (.lst b) Q := ⟨l, h⟩
theorem y_sub {a b : Int} (h : Q (.fz (.int (a - b)))) : subD (.int a) (.int b) Q := h
theorem y_mul {a b : Int} (l : MulOk a b) (h : Q (.fz (.int (a * b)))) : mulD (.int a) (.int b) Q := ⟨l, h⟩
theorem y_fdiv {a b : Int} (l : CDivW a b) (h : Q (.fz (.int (a / b)))) : fdivD (.int a) (.int b) Q := ⟨l, h⟩
theorem y_mod {a b : Int} (l : 0 < b) (h : Q (.fz (.int (a % b)))) : modD (.int a) (.int b) Q := ⟨l, h⟩
theorem y_pow {a b : Int} (l : CPow a b) (h : Q (.fz (.int (a ^ b.toNat)))) : powD (.int a) (.int b) Q := ⟨l, h⟩
theorem y_eq {x y : Dv} {b : Bool} (e : scD x y = some b) (h : Q (.fz (.bl b))) : eqD x y Q := by refine eqD.mk ?_; unfold eqDr; rw [e]; exact h
theorem y_ne {x y : Dv} {b : Bool} (e : scD x y = some b) (h : Q (.fz (.bl (!b)))) : neD x y Q := by refine neD.mk ?_; unfold neDr; rw [e]; exact h
theorem y_ordI {p : Int → Int → Bool} {z : Str → Str → Bool} {a b : Int} (h : Q (.fz (.bl (p a b)))) : ordD p z (.int a) (.int b) Q := h
theorem y_ordS {p : Int → Int → Bool} {z : Str → Str → Bool} {a b : Str} (h : Q (.fz (.bl (z a b)))) : ordD p z (.str a) (.str b) Q := h
theorem y_inL {x : Dv} {ds : List Dv} (f : x.flat = true) (g : ds.all Dv.flat = true) (h : k (ds.any fun y => eqF y x)) : inD x (.lst ds) k := by refine inD.mk ?_; unfold inDr; exact ⟨f, g, h⟩
theorem y_inT {x : Dv} {ds : List Dv} (f : x.flat = true) (g : ds.all Dv.flat = true) (h : k (ds.any fun y => eqF y x)) : inD x (.tup ds) k := by refine inD.mk ?_; unfold inDr; exact ⟨f, g, h⟩
theorem y_inS {i z : Str} (h : k (strIn i z)) : inD (.str i) (.str z) k := by refine inD.mk ?_; unfold inDr; exact h
theorem y_inD {x : Dv} {ks : List (Key × Dv)} {q : Key} (e : x.key = some q) (h : k (valD ks q).isSome) : inD x (.dic ks) k := by
  refine inD.mk ?_; unfold inDr
  dsimp only
  rw [e]
  exact h
theorem y_ixL {ds : List Dv} {i : Int} {d : Dv} (e : atI ds i = some d) (h : kd d) : ixD (.lst ds) (.int i) kd := by refine ixD.mk ?_; unfold ixDr; dsimp only; rw [e]; exact h
theorem y_ixT {ds : List Dv} {i : Int} {d : Dv} (e : atI ds i = some d) (h : kd d) : ixD (.tup ds) (.int i) kd := by refine ixD.mk ?_; unfold ixDr; dsimp only; rw [e]; exact h
theorem y_ixS {z : Str} {i : Int} {c : Nat} (l : z.length ≤ sizeLine) (e : atI z.cps.toList i = some c) (h : kd (.str ⟨#[c]⟩)) : ixD (.str z) (.int i) kd := by refine ixD.mk ?_; unfold ixDr; dsimp only; rw [e]; exact ⟨l, h⟩
theorem y_ixD {ks : List (Key × Dv)} {x d : Dv} {q : Key} (e : x.key = some q) (e2 : valD ks q = some d) (h : kd d) : ixD (.dic ks) x kd := by
  refine ixD.mk ?_; unfold ixDr
  cases x <;> first | (cases e; done) | skip
  · cases e
    dsimp only [Dv.key]
    rw [e2]
    exact h
  · cases e
    dsimp only [Dv.key]
    rw [e2]
    exact h
theorem y_slL {ds : List Dv} {lo hi : Option Int} (h : Q (.ow (.lst (cutD ds lo hi)))) : slD (.lst ds) lo hi Q := by refine slD.mk ?_; unfold slDr; exact h
theorem y_slT {ds : List Dv} {lo hi : Option Int} (n : ¬ (HT.sIx ds.length 0 lo = 0 ∧ HT.sIx ds.length ds.length hi = ds.length)) (h : Q (.fz (.tup (cutD ds lo hi)))) : slD (.tup ds) lo hi Q := by refine slD.mk ?_; unfold slDr; exact ⟨n, h⟩
theorem y_slS {z : Str} {lo hi : Option Int} (l : z.length ≤ sizeLine) (h : Q (.fz (.str (cutS z lo hi)))) : slD (.str z) lo hi Q := by refine slD.mk ?_; unfold slDr; exact ⟨l, h⟩
theorem y_lenL {ds : List Dv} (h : Q (.fz (.int ds.length))) : lenD (.lst ds) Q := h
theorem y_lenT {ds : List Dv} (h : Q (.fz (.int ds.length))) : lenD (.tup ds) Q := h
theorem y_lenD {ds : List (Key × Dv)} (h : Q (.fz (.int ds.length))) : lenD (.dic ds) Q := h
theorem y_lenS {z : Str} (l : z.length ≤ sizeLine) (h : Q (.fz (.int z.length))) : lenD (.str z) Q := ⟨l, h⟩
theorem y_intI {i : Int} (h : Q (.fz (.int i))) : intD (.int i) Q := h
theorem y_intB {b : Bool} (h : Q (.fz (.int (if b then 1 else 0)))) : intD (.bl b) Q := h
theorem y_strI {i : Int} (l : i.natAbs.log2 < 1920) (h : Q (.fz (.str (toString i)))) : strD (.int i) Q := by refine strD.mk ?_; unfold strDr; exact ⟨l, h⟩
theorem y_strS {a : Str} (h : Q (.fz (.str a))) : strD (.str a) Q := by refine strD.mk ?_; unfold strDr; exact h
theorem y_abs {i : Int} (h : Q (.fz (.int (if i < 0 then -i else i)))) : absD (.int i) Q := h
theorem y_listL {ds : List Dv} (h : Q (.ow (.lst ds))) : listD (.lst ds) Q := h
theorem y_listT {ds : List Dv} (h : Q (.ow (.lst ds))) : listD (.tup ds) Q := h
theorem y_listN {ns : List Int} (h : Q (.ow (.lst (ns.map Dv.int)))) : listD (.scr ns) Q := h
theorem y_tupL {ds : List Dv} (h : Q (.fz (.tup ds))) : tupD (.lst ds) Q := h
theorem y_all {f : List Bool → Bool} {ds : List Dv} {bs : List Bool} (e : bls ds = some bs) (h : Q (.fz (.bl (f bs)))) : allD f (.lst ds) Q := by refine allD.mk ?_; unfold allDr; dsimp only; rw [e]; exact h
theorem y_isi {d : Dv} {T n : String} {b : Bool} (e : d.tn = some n) (e2 : isiB n T = some b) (h : Q (.fz (.bl b))) : isiD [d, .ty T] Q := by unfold isiD; dsimp only; rw [e]; dsimp only; rw [e2]; exact h
theorem y_neg {i : Int} (h : Q (.fz (.int (-i)))) : negD (.int i) Q := h
theorem y_app {xs : List Dv} {y : Dv} {k : Dv → Bd → Prop} (l : xs.length < sizeLine) (h : k .non (.lst (xs ++ [y]))) : appD (.lst xs) [y] k := ⟨l, h⟩
theorem y_setL {ds : List Dv} {z : Int} {x : Dv} {k : Bd → Prop} {j : Nat} (e : ixN ds.length z = some j) (h : k (.lst (ds.set j x))) : setD (.lst ds) (.int z) x k := by refine setD.mk ?_; unfold setDr; dsimp only; rw [e]; exact h
theorem y_setD {ks : List (Key × Dv)} {i x : Dv} {k : Bd → Prop} {q : Key} (e : i.key = some q) (l : ks.length < sizeLine) (h : k (.dic (putD ks q x))) : setD (.dic ks) i x k := by
  refine setD.mk ?_; unfold setDr
  dsimp only
  rw [e]
  exact ⟨l, h⟩
end
theorem sz16 : sizeLine = 16777216 := by decide
theorem iT {c A B : Prop} [Decidable c] (h : c) (a : A) : if c then A else B := by rw [if_pos h]; exact a
theorem iF {c A B : Prop} [Decidable c] (h : ¬ c) (b : B) : if c then A else B := by rw [if_neg h]; exact b
theorem i2 {c A B : Prop} [Decidable c] (a : c → A) (b : ¬ c → B) : if c then A else B := by
  by_cases h : c
  · rw [if_pos h]; exact a h
  · rw [if_neg h]; exact b h
theorem dupl {T : Prop} (_ : T ↔ T) (x : T) : T := x
/-- a test that is told by a Bool -/
theorem brT {b : Bool} {A B : Prop} (h : b = true) (a : A) : br b A B := by subst h; exact a
theorem brF {b : Bool} {A B : Prop} (h : b = false) (a : B) : br b A B := by subst h; exact a
theorem ib {c A B : Prop} {b : Bool} [Decidable c] (h : b = decide c) (x : c → A) (y : ¬ c → B) : br b A B := by
  subst h
  by_cases z : c
  · exact brT (by simp [z]) (x z)
  · exact brF (by simp [z]) (y z)
end VL

/-! X2: inductions over loops. -/
namespace VL
open PySem PySem.Spec PyProof.Rows L2
/-- a value as data, at once -/
def fzd (x : Sl) (k : Dv → Prop) : Prop := match x with
  | .un => k .non
  | .fz d => k d
  | .ow (.lst ds) => k (.lst ds)
  | .ow (.dic ks) => k (.dic ks)
theorem fzd_e {x : Sl} {k : Dv → Prop} : fzd x k = k x.d := by
  cases x with
  | un => rfl
  | fz d => rfl
  | ow b => cases b <;> rfl
def aConsF (ta : VT) (tr : VTA) : VTA := fun R s Q => ta R s fun x s => fzd x fun d => tr R s fun ds s => Q (d :: ds) s
theorem aConsF_e {ta : VT} {tr : VTA} : aConsF ta tr = aCons ta tr := by
  funext R s Q
  unfold aConsF aCons
  simp only [fzd_e]
def vVarF (i : Nat) : VT := fun _ s Q => match s.ρ[i]? with
  | some (.fz d) => Q (.fz d) s
  | some (.ow (.lst ds)) => Q (.fz (.lst ds)) (s.put i (.fz (.lst ds)))
  | some (.ow (.dic ds)) => Q (.fz (.dic ds)) (s.put i (.fz (.dic ds)))
  | _ => False
theorem vVarF_e {i : Nat} : vVarF i = vVar i := by
  funext R s Q
  unfold vVarF vVar
  cases s.ρ[i]? with
  | none => rfl
  | some x =>
    cases x with
    | un => rfl
    | fz d => rfl
    | ow b => cases b <;> rfl
def sIxF (tp : VTP) (ti t : VT) : VTS := fun R s Q => t R s fun x s => fzd x fun d => tp R s fun p s => ti R s fun i s => fzd i fun j => mutAt s p fun b f => setD b j d fun b' => Q .nx (f b')
theorem sIxF_e {tp : VTP} {ti t : VT} : sIxF tp ti t = sIx tp ti t := by
  funext R s Q
  unfold sIxF sIx
  simp only [fzd_e]
section
variable {chk : S → Prop} {tg : VTG} {body : VTS} {R : RK} {Q : Fl → S → Prop} {items : List Dv} {s : S} {vs : List Nat} {ct : CT} {tt : VTC} {te tk : VT}
theorem for_ind (I : List Dv → S → Prop) (h0 : I items s) (hn : ∀ s, I [] s → chk s ∧ Q .nx s)
    (hc : ∀ d ds s, (∀ s, I ds s → forV chk tg body R Q ds s) → I (d :: ds) s → (chk s ∧ tg (.fz d) s fun s => body R s fun f s => match f with
      | .nx => forV chk tg body R Q ds s
      | .ct => forV chk tg body R Q ds s
      | .bk => Q .nx s
      | .rt x => Q (.rt x) s)) : forV chk tg body R Q items s := by
  induction items generalizing s with
  | nil => exact hn s h0
  | cons d ds ih => exact hc d ds s (fun s h => ih h) h0
theorem comp_ind {QC : List Dv → S → Prop} (I : List Dv → List Dv → S → Prop) {acc : List Dv} (h0 : I items acc s) (hn : ∀ acc s, I [] acc s → chk s ∧ QC acc s)
    (hc : ∀ d ds acc s, (∀ acc s, I ds acc s → compV vs chk ct tt te QC ds acc s) → I (d :: ds) acc s → (chk s ∧ ct.v d s fun s => tt R0 s fun b s => br b (te R0 s fun x s => fzd x fun d => acc.length < sizeLine ∧ compV vs chk ct tt te QC ds (acc ++ [d]) (s.wipe vs)) (compV vs chk ct tt te QC ds acc (s.wipe vs)))) :
    compV vs chk ct tt te QC items acc s := by
  induction items generalizing s acc with
  | nil => exact hn acc s h0
  | cons d ds ih =>
    have h := hc d ds acc s (fun acc s h => ih h) h0
    simp only [fzd_e] at h
    exact h
theorem sl_drop {xs ys : List Dv} {k : Nat} {n : Int} {QX : Sl → Prop} (e : n = (k : Int) ∧ xs.drop k = ys ∧ k ≤ xs.length ∧ 0 < k) (q : QX (.fz (.tup ys))) : slD (.tup xs) (some n) none QX := by
  obtain ⟨rfl, rfl, h1, h2⟩ := e
  refine slD.mk ?_; unfold slDr
  refine ⟨?_, ?_⟩
  · rw [HT.sIx_nat]
    omega
  · unfold cutD
    rw [HT.sIx_nat, HT.sIx_none, Nat.min_eq_left h1, List.take_of_length_le (by rw [List.length_drop]; exact Nat.le_refl _)]
    exact q
theorem sl_1 {x : Dv} {xs : List Dv} {QX : Sl → Prop} (q : QX (.fz (.tup xs))) : slD (.tup (x :: xs)) (some 1) none QX := sl_drop (k := 1) ⟨rfl, rfl, by simp, by decide⟩ q
theorem sl_2 {x y : Dv} {xs : List Dv} {QX : Sl → Prop} (q : QX (.fz (.tup xs))) : slD (.tup (x :: y :: xs)) (some 2) none QX := sl_drop (k := 2) ⟨rfl, rfl, by simp, by decide⟩ q
theorem rslv_of {st : List Cl} {d : Dv} (h : ∀ n, d ≠ .obj n) : rslv st d = d := by
  cases d <;> first | rfl | exact absurd rfl (h _)
theorem x_ctn {i : Nat} {d : Dv} {QS : S → Prop} (h : QS (s.put i (.fz d))) : (CT.nm i).v d s QS := h
theorem x_ctt {is : List Nat} {ds : List Dv} {QS : S → Prop} (l : ds.length = is.length) (h : QS (putAll is ds s)) : (CT.tu is).v (.tup ds) s QS := ⟨l, h⟩
theorem iFb {b : Bool} {A B : Prop} (h : b = false) (y : B) : br b A B := brF h y
theorem mk_v0 {P : Program} {w : World} {K : PySem.W.Frag} {mg : Str → Option Value} {base : Heap} {f : Addr} {fd : FuncData} {N ps : List Str} {x : Str} {st : Stmt} {F : VSp} {k : Nat} (Fd : FunD K x x (defArgs st) (defBody st) (defScope st) [] [] f fd) (hm : mg x = some (.ref f)) (hb : Binds K fd ps []) (S : FnScope N ps (defScope st)) (hF : ∀ ds st Q R, ¬ F ds st Q R) : VD P w K mg base (k + 1) x ps F := by
  refine mk_defX Fd hm hb S (fun vs H Q E h => ?_) (fun cdv A outer s H vs Q E hr h => ?_)
  · obtain ⟨g, ds, st, Q0, R0, _, _, rs, h, _⟩ := h
    exact (hF _ _ _ _ h).elim
  · obtain ⟨g, ds, st, Q0, R0, _, _, rs, h, _⟩ := h
    exact (hF _ _ _ _ h).elim
theorem zip_cons {x y : Dv} {xs ys : List Dv} : zipD (x :: xs) (y :: ys) = .tup [x, y] :: zipD xs ys := rfl
theorem atI_0 {α : Type} {x : α} {xs : List α} : atI (x :: xs) 0 = some x := by
  unfold atI ixN
  simp
theorem atI_1 {α : Type} {x y : α} {xs : List α} : atI (x :: y :: xs) 1 = some y := by
  unfold atI ixN
  simp
  rw [if_pos (by omega)]
  rfl
theorem atI_2 {α : Type} {x y z : α} {xs : List α} : atI (x :: y :: z :: xs) 2 = some z := by
  unfold atI ixN
  simp
  rw [if_pos (by omega)]
  rfl
@[simp] theorem sl_fz {d : Dv} : (Sl.fz d).d = d := rfl
theorem sl_ow {b : Bd} : (Sl.ow b).d = b.d := rfl
@[simp] theorem sl_owl {ds : List Dv} : (Sl.ow (.lst ds)).d = .lst ds := rfl
@[simp] theorem sl_owd {ds : List (Key × Dv)} : (Sl.ow (.dic ds)).d = .dic ds := rfl
@[simp] theorem bd_l {ds : List Dv} : (Bd.lst ds).d = .lst ds := rfl
@[simp] theorem bd_d {ds : List (Key × Dv)} : (Bd.dic ds).d = .dic ds := rfl
theorem isn_non : Dv.non.isNon = some true := rfl
theorem isn_bl {b : Bool} : (Dv.bl b).isNon = some false := rfl
theorem isn_int {b : Int} : (Dv.int b).isNon = some false := rfl
theorem isn_str {b : Str} : (Dv.str b).isNon = some false := rfl
theorem isn_lst {b : List Dv} : (Dv.lst b).isNon = some false := rfl
theorem isn_tup {b : List Dv} : (Dv.tup b).isNon = some false := rfl
theorem isn_dic {b : List (Key × Dv)} : (Dv.dic b).isNon = some false := rfl
theorem x_compK {vs : List Nat} {i : Nat} {ks : List (Key × Dv)} {QE : Sl → S → Prop} (e : s.ρ[i]? = some (.fz (.dic ks))) (h : compV vs (fun _ => True) ct tt te (fun acc s' => QE (.ow (.lst acc)) (s'.rest s.ρ vs)) (keysD ks) [] (s.wipe vs)) : vCompK vs i ct tt te R s QE := by unfold vCompK; rw [e]; exact h
theorem x_forK {i : Nat} {ks : List (Key × Dv)} (e : s.ρ[i]? = some (.fz (.dic ks))) (h : forV (fun _ => True) tg body R0 Q (keysD ks) s) : sForK i tg body R s Q := by unfold sForK; rw [e]; exact h
theorem x_forKO {i : Nat} {ks : List (Key × Dv)} (e : s.ρ[i]? = some (.ow (.dic ks))) (h : forV (fun _ => True) tg body R0 Q (keysD ks) (s.put i (.fz (.dic ks)))) : sForK i tg body R s Q := by unfold sForK; rw [e]; exact h
theorem key_kD (q : Key) : (kD q).key = some q := by cases q <;> rfl
theorem rslv_kD (st : List Cl) (q : Key) : rslv st (kD q) = kD q := by cases q <;> rfl
theorem bls_rep (n : Nat) : bls (List.replicate n (.bl true)) = some (List.replicate n true) := by
  induction n with
  | zero => rfl
  | succ n ih => rw [List.replicate_succ, bls, ih]; rfl
theorem y_allT {n : Nat} {QX : Sl → Prop} (h : QX (.fz (.bl true))) : allD (fun bs => bs.all id) (.lst (List.replicate n (.bl true))) QX := by
  refine allD.mk ?_; unfold allDr
  dsimp only
  rw [bls_rep]
  have : (List.replicate n true).all id = true := by
    rw [List.all_eq_true]
    intro x hx
    exact (List.mem_replicate.mp hx).2
  dsimp only
  rw [this]
  exact h
theorem rangeD_succ (lo : Int) (n : Nat) : rangeD lo (n + 1) = .int lo :: rangeD (lo + 1) n := by
  unfold rangeD
  rw [List.range_succ_eq_map, List.map_cons, List.map_map]
  simp only [Function.comp_def]
  congr 1
  · simp
  · apply List.map_congr_left
    intro a _
    simp only [Nat.succ_eq_add_one]
    congr 1
    push_cast
    omega
theorem valD_mem {ks : List (Key × Dv)} {q : Key} {d : Dv} (nd : (ks.map (·.1)).Nodup) (h : (q, d) ∈ ks) : valD ks q = some d := by
  unfold valD
  induction ks with
  | nil => cases h
  | cons a ks ih =>
    rw [List.map_cons, List.nodup_cons] at nd
    rw [List.find?_cons]
    rcases List.mem_cons.mp h with rfl | h
    · simp
    · have : a.1 ≠ q := fun e => nd.1 (by rw [e]; exact List.mem_map.mpr ⟨_, h, rfl⟩)
      simp only [this, decide_false]
      exact ih nd.2 h
theorem putD_new {ks : List (Key × Dv)} {q : Key} {d : Dv} (h : q ∉ ks.map (·.1)) : putD ks q d = ks ++ [(q, d)] := by
  unfold putD
  rw [if_neg]
  intro z
  rw [List.any_eq_true] at z
  obtain ⟨x, h1, h2⟩ := z
  exact h (List.mem_map.mpr ⟨x, h1, by simpa using h2⟩)
theorem y_pop {xs : List Dv} {i : Nat} {y : Dv} {k : Dv → Bd → Prop} (l : xs.length ≤ 1000000) (e : xs[i]? = some y) (h : k y (.lst (xs.eraseIdx i))) : popD (.lst xs) [.int (i : Int)] k := by
  have hi : i < xs.length := (List.getElem?_eq_some_iff.mp e).1
  have hs : seqIndex? (i : Int) xs.length = some i := by
    unfold seqIndex?
    simp
    omega
  refine popD.mk ?_; unfold popDr
  dsimp only
  rw [hs]
  dsimp only
  rw [e]
  exact ⟨by omega, by omega, h⟩
theorem cutS_mem {z : Str} {lo hi : Option Int} {c : Nat} (h : c ∈ (cutS z lo hi).cps.toList) : c ∈ z.cps.toList := by
  unfold cutS at h
  exact List.mem_of_mem_drop (List.mem_of_mem_take h)
theorem cutS_len {z : Str} {lo hi : Option Int} : (cutS z lo hi).length ≤ z.length := by
  unfold cutS Str.length
  simp
  omega
theorem app_mem {x y : Str} {c : Nat} : c ∈ (x ++ y).cps.toList ↔ c ∈ x.cps.toList ∨ c ∈ y.cps.toList := by
  show c ∈ (x.cps ++ y.cps).toList ↔ _
  rw [Array.toList_append, List.mem_append]
theorem app_len {x y : Str} : (x ++ y).length = x.length + y.length := by
  show (x.cps ++ y.cps).size = _
  rw [Array.size_append]
  rfl
theorem putD_last {ks : List (Key × Dv)} {q : Key} {d d' : Dv} (h : q ∉ ks.map (·.1)) : putD (ks ++ [(q, d)]) q d' = ks ++ [(q, d')] := by
  unfold putD
  rw [if_pos (by simp), List.map_append]
  congr 1
  · have : ks.map (fun kv => if kv.1 = q then (kv.1, d') else kv) = ks.map id := by
      apply List.map_congr_left
      intro a ha
      have : a.1 ≠ q := fun e => h (by rw [← e]; exact List.mem_map.mpr ⟨a, ha, rfl⟩)
      rw [if_neg this]
      rfl
    rw [this, List.map_id]
  · simp
/-- both branches of an if end in what J says -/
structure vIfJ (tc : VTC) (ta tb : VT) (R : RK) (s : S) (Q : Sl → S → Prop) : Prop where
  h : vIf tc ta tb R s Q
structure sIfJ (tc : VTC) (t u : VTS) (R : RK) (s : S) (Q : Fl → S → Prop) : Prop where
  h : sIf tc t u R s Q
theorem ve_ifJ {X : Cx} {W : WX} {c a b : Expr} {pos : Pos} {tc : VTC} {ta tb : VT} (hc : VC X W c tc) (ha : VE X W a ta) (hb : VE X W b tb) : VE X W (.IfExp c a b pos) (vIfJ tc ta tb) := fun g0 g σ s R Q QV r cv k q => ve_if hc ha hb g0 g σ s R Q QV r cv k q.h
theorem vs_ifJ {X : Cx} {W : WX} {c : Expr} {bs cs : List Stmt} {pos : Pos} {tc : VTC} {t u : VTS} (hc : VC X W c tc) (ha : VSs X W bs t) (hb : VSs X W cs u) : VS X W (.If c bs cs pos) (sIfJ tc t u) := fun g0 g σ s R Q D r cv k q => vs_if hc ha hb g0 g σ s R Q D r cv k q.h
theorem x_ifJ {QE : Sl → S → Prop} {ca : VTC} {ta tb : VT} (J : Sl → S → Prop) (hJ : ∀ x s, J x s → QE x s) (h : ∀ Q' : Sl → S → Prop, (∀ x s, J x s → Q' x s) → ca R s fun c s => br c (ta R s Q') (tb R s Q')) : vIfJ ca ta tb R s QE := ⟨h QE hJ⟩
theorem x_sifJ {ca : VTC} {t u : VTS} (J : Fl → S → Prop) (hJ : ∀ f s, J f s → Q f s) (h : ∀ Q' : Fl → S → Prop, (∀ f s, J f s → Q' f s) → ca R s fun c s => br c (t R s Q') (u R s Q')) : sIfJ ca t u R s Q := ⟨h Q hJ⟩
/-- an argument that is not starred -/
def noStar : Expr → Bool
  | .Starred _ _ => false
  | _ => true
theorem st_plain {a : Expr} {es : List Expr} {env : Env} (h : noStar a = true) : starEach (a :: es) env = (false, eval a env) :: starEach es env := by
  cases a <;> first | rfl | cases h
theorem any_plain {es : List Expr} {env : Env} {pos : Pos} (h : es.all noStar = true) : (backTo pos (starEach es env)).any (·.1) = false := by
  induction es with
  | nil => rfl
  | cons a es ih =>
    rw [List.all_cons, Bool.and_eq_true] at h
    rw [st_plain h.1]
    exact ih h.2
theorem va_c {X : Cx} {W : WX} {a : Expr} {es : List Expr} {ta : VT} {tr : VTA} (ha : VE X W a ta) (hr : VA X W es tr) (hs : noStar a = true := by rfl) : VA X W (a :: es) (aConsF ta tr) := by rw [aConsF_e]; exact va_cons ha hr (st_plain hs)
theorem ve_callP {X : Cx} {W : WX} {x : Str} {ps : List Str} {F : VSp} {k : Nat} {e : Expr} {es : List Expr} {tr : VTA} {p pos : Pos} (G : VD X.prog X.w X.K X.mg X.base k x ps F) (hr : Room k X.A) (tk : Takes X W) (ha : VA X W (e :: es) tr) (hg : Gl X x := by rfl) (hdb : (x == ("__debug__" : Str)) = false := by decide)
    (he : noStar e = true := by rfl) (hpl : es.all noStar = true := by rfl) : VE X W (.Call (.Name x p) (e :: es) [] pos) (vCall F tr) := ve_call G hr tk ha hg hdb (st_plain he) (any_plain hpl)
theorem vnF {X : Cx} {W : WX} {x : Str} {pos : Pos} (i : Nat) (hN : X.N[i]? = some x := by rfl) (hv : Vis X.env.scope x := by first | exact Or.inl rfl | exact Or.inr (Or.inl rfl) | exact Or.inr (Or.inr rfl)) (hd : (x == ("__debug__" : Str)) = false := by decide)
    (hcd : (x == ("__classdict__" : Str)) = false := by decide) : VE X W (.Name x pos) (vVarF i) := by rw [vVarF_e]; exact ve_name hN hv hd hcd
theorem vs_ixF {X : Cx} {W : WX} {e a b : Expr} {pos pos' : Pos} {t ti : VT} {tp : VTP} (hu : X.A.units + 1 < cLine) (hv : VE X W e t) (hp : VP X W a tp) (hi : VE X W b ti)
    (ha : ∀ v, assign (.Subscript a b pos') X.env v = (do
      let ov ← holding [v] (eval a X.env)
      let iv ← holding [v, ov] (eval b X.env)
      standAt pos'
      holding [v, ov, iv] (setItem ov iv v)
      release [v, ov, iv] []) := by intro _; rfl)
    (hs : swapsWithSole [.Subscript a b pos'] e pos.line X.env = pure false := by rfl) (hw : swappedStores [.Subscript a b pos'] e X.env = pure none := by rfl)
    (h1 : (assignEach [.Subscript a b pos'] X.env).map (·.2) = [assign (.Subscript a b pos') X.env] := by rfl) : VS X W (.Assign [.Subscript a b pos'] e pos) (sIxF tp ti t) := by
  rw [sIxF_e]
  exact vs_ix hu hv hp hi ha hs hw h1
/-- return: what is given back is a value for ever -/
def sRetF (t : VT) : VTS := fun R s Q => t R s fun x s => fzd x fun d => Q (.rt (.fz d)) s
theorem vs_retF {X : Cx} {W : WX} {e : Expr} {t : VT} {pos : Pos} (h : VE X W e t) : VS X W (.Return (some e) pos) (sRetF t) := fun g0 g σ s R Q D r cv k q => by
  unfold sRetF at q
  simp only [fzd_e] at q
  exact psu (ps_ret pe_u) (h.fz (Q := fun d s => Q (.rt (.fz d)) s) r cv (fun g' s' v d r' ex rp q' => k.rt g' σ s' v (.fz d) r' ex rp q') q)
theorem x_def {N : List Str} {t : VTS} {ds : List Dv} {st : List Cl} {QD : Sl → List Cl → Prop} {RD : Exn → List Cl → Prop} (h : t (fun ex s => RD ex s.st) ⟨ds.map .fz ++ List.replicate (N.length - ds.length) .un, st⟩ fun f s => match f with
  | .nx => QD (.fz .non) s.st
  | .rt x => QD x s.st
  | _ => False) : vDef N t ds st QD RD := h
end
end VL

/-! WDic: a written dict with text keys and tuples of tuples as values; a head hook that also tells of such tables. -/
namespace VL
open PySem PySem.Spec PyProof.Rows L2
def all2 {α β : Type} (f : α → β → Bool) : List α → List β → Bool
  | [], [] => true
  | a :: as, b :: bs => f a b && all2 f as bs
  | _, _ => false
/-- a written value is the data d -/
def rpB (K : PySem.W.Frag) : Nat → Dv → Value → Bool
  | 0, _, _ => false
  | n + 1, d, v => match d, v with
    | .non, .none => true
    | .bl b, .bool c => decide (b = c)
    | .int i, .int j _ => decide (i = j)
    | .str x, .str y _ => decide (x = y)
    | .tup ds, .ref a => (match K.lookup a with
      | some ⟨.type c, _, .seq its _, _⟩ => decide (c = "tuple") && (decide (its.size ≤ sizeLine) && all2 (rpB K n) ds its.toList)
      | _ => false)
    | _, _ => false
theorem all2_rps {K : PySem.W.Frag} {f : Dv → Value → Bool} (h : ∀ d v, f d v = true → ∃ u, RelV u v ∧ ∀ g, Rp K g d u) : ∀ {ds : List Dv} {vs : List Value}, all2 f ds vs = true → ∃ us, Vals us vs ∧ ∀ g, Rps K g ds us
  | [], [], _ => ⟨[], .nil, fun _ => .nil⟩
  | d :: ds, v :: vs, e => by
    obtain ⟨e1, e2⟩ := Bool.and_eq_true_iff.mp (show (f d v && all2 f ds vs) = true from e)
    obtain ⟨u, h1, h2⟩ := h d v e1
    obtain ⟨us, h3, h4⟩ := all2_rps h e2
    exact ⟨u :: us, .cons h1 h3, fun g => .cons (h2 g) (h4 g)⟩
  | [], _ :: _, e => by cases e
  | _ :: _, [], e => by cases e
theorem rpB_ok {K : PySem.W.Frag} : ∀ (n : Nat) (d : Dv) (v : Value), rpB K n d v = true → ∃ u, RelV u v ∧ ∀ g, Rp K g d u
  | 0, _, _, h => by cases h
  | n + 1, d, v, h => by
    unfold rpB at h
    split at h
    · exact ⟨.non, rfl, fun _ => .non⟩
    · rename_i b c
      have e : b = c := of_decide_eq_true h
      subst e
      exact ⟨.bl b, rfl, fun _ => .bl _⟩
    · rename_i i j t
      have e : i = j := of_decide_eq_true h
      subst e
      exact ⟨.int i, ⟨t, rfl⟩, fun _ => .int _⟩
    · rename_i x y t
      have e : x = y := of_decide_eq_true h
      subst e
      exact ⟨.str x, ⟨t, rfl⟩, fun _ => .str _⟩
    · rename_i ds a
      split at h
      · rename_i c od its m sl hl
        simp only [Bool.and_eq_true, decide_eq_true_eq] at h
        obtain ⟨h1, h2, h3⟩ := h
        subst h1
        obtain ⟨us, h4, h5⟩ := all2_rps (rpB_ok n) h3
        exact ⟨.ref a, rfl, fun g => .tup (.inr (.inr ⟨_, its, m, hl, rfl, rfl, h2, h4⟩)) (h5 g)⟩
      · cases h
    · cases h
/-- the data at each of some keys -/
def WDic (K : PySem.W.Frag) (w : World) (a : Addr) (ks : List (Str × Dv)) : Prop := ∀ q ∈ ks, ∃ v, KDct K w a q.1 v ∧ ∀ g, Rp K g q.2 v
def wdB (K : PySem.W.Frag) (n : Nat) (a : Addr) (ks : List (Str × Dv)) : Bool := ks.all fun q => match PySem.W.nsIn K a q.1 with
  | some (some u) => rpB K n q.2 u
  | _ => false
theorem wdic_of {K : PySem.W.Frag} {w : World} {a : Addr} {ks : List (Str × Dv)} {es : Array DictEntry} {m n : Nat} (D : KDict K w a es m) (h : wdB K n a ks = true) : WDic K w a ks := fun q hq => by
  have h2 := List.all_eq_true.mp h q hq
  cases e : PySem.W.nsIn K a q.1 with
  | none => rw [e] at h2; cases h2
  | some r =>
    rw [e] at h2
    cases r with
    | none => cases h2
    | some u =>
      obtain ⟨v, h3, h4⟩ := rpB_ok n q.2 u h2
      exact ⟨v, ⟨es, m, u, D.at_, D.lit, e, h3⟩, h4⟩
/-- NAME[e], NAME a written dict -/
def vWix (ks : List (Str × Dv)) (te : VT) : VT := fun R s Q => te R s fun y s => ∃ z d, y.d = .str z ∧ (z, d) ∈ ks ∧ Q (.fz d) s
theorem ve_wix {X : Cx} {W : WX} {x : Str} {a : Addr} {e : Expr} {te : VT} {p pos : Pos} {ks : List (Str × Dv)} (hm : X.mg x = some (.ref a)) (wd : WDic X.K X.w a ks) (he : VE X W e te) (hs : PlainIx e) (hg : Gl X x := by rfl) (hd : (x == ("__debug__" : Str)) = false := by decide) :
    VE X W (.Subscript (.Name x p) e pos) (vWix ks te) := by
  intro g0 g σ s R Q QV r cv k q
  refine peu (pe_ix ix_kdict (pe_glob (v := .ref a) hg hm rfl hd) pe_u hs) ?_
  refine he.fz (Q := fun y s => ∃ z d, y = .str z ∧ (z, d) ∈ ks ∧ Q (.fz d) s) r cv (fun g2 s2 u i r2 ex2 rp2 q2 => ?_) q
  obtain ⟨z, d, rfl, hz, q3⟩ := q2
  cases rp2
  obtain ⟨v, h1, h2⟩ := wd _ hz
  exact ⟨a, z, v, rfl, rfl, h1, k g2 s2 v (.fz d) r2 ex2 (h2 g2) q3⟩
theorem x_wix {ks : List (Str × Dv)} {te : VT} {R : RK} {s : S} {QE : Sl → S → Prop} (h : te R s fun y s => ∃ z d, y.d = .str z ∧ (z, d) ∈ ks ∧ QE (.fz d) s) : vWix ks te R s QE := h
end VL
namespace Lo
open PySem PySem.W PySem.Calls PyProof.Rows PySem.HandSPX
abbrev AlA : Type := He.AlD × (Bool × (List LwW × List (Option (List (Option (Str × Int))))))
structure SaysA (fa : List He.Fa) (fn : List He.DefD) (ls : List LowD) (ex : Frag → Bool) (ts : List He.Tab) (w : World) (K : Frag) : Prop where
  d : He.SaysD fa fn K
  more : ex K = true
  low : ls.map (fun d => lowW K d.x) = ls.map LowD.val
  tabs : ts.map (fun t => He.dicW K (t.1 K)) = ts.map fun t => some (He.keysIn w.params t.2)
def obsA (n : Nat) (fa : List He.Fa) (fn : List He.DefD) (ls : List LowD) (ex : Frag → Bool) (ts : List He.Tab) (g : Addr → Option Obj) : AlA :=
  (He.obsD fa fn (fragL g n), ex (fragL g n), ls.map (fun d => lowW (fragL g n) d.x), ts.map fun t => He.dicW (fragL g n) (t.1 (fragL g n)))
def valA (fn : List He.DefD) (ls : List LowD) (ts : List He.Tab) (w : World) : AlA := (He.valD fn, true, ls.map LowD.val, ts.map fun (t : He.Tab) => some (He.keysIn w.params t.2))
def hookA (n : Nat) (fa : List He.Fa) (fn : List He.DefD) (ls : List LowD) (ex : Frag → Bool) (ts : List He.Tab) : Hook where
  α := AlA
  obs := fun s => obsA n fa fn ls ex ts s.heap.get?
  val := valA fn ls ts
  says := fun w h => ∃ K : Frag, K.In h ∧ SaysA fa fn ls ex ts w K
  of := fun _ _ e => ⟨_, He.frT_in, congrArg (fun z : AlA => z.1) e, congrArg (fun z : AlA => z.2.1) e, congrArg (fun z : AlA => z.2.2.1) e, congrArg (fun z : AlA => z.2.2.2) e⟩
  keeps := fun _ _ _ ⟨K, hK, c⟩ k => ⟨K, Frag.In.keeps hK k, c⟩
theorem obsA_eq {n : Nat} {fa : List He.Fa} {fn : List He.DefD} {ls : List LowD} {ex : Frag → Bool} {ts : List He.Tab} {g : Addr → Option Obj} {s : Shared} (h : ∀ a, g a = s.heap.get? a) : obsA n fa fn ls ex ts g = (hookA n fa fn ls ex ts).obs s := by
  have e : g = s.heap.get? := funext h
  rw [e] <;> rfl
theorem SaysA.get {fa : List He.Fa} {fn : List He.DefD} {ls : List LowD} {ex : Frag → Bool} {ts : List He.Tab} {w : World} {K : Frag} (c : SaysA fa fn ls ex ts w K) {d : LowD} (hd : d ∈ ls) : lowW K d.x = d.val := List.map_inj_left.mp c.low d hd
theorem SaysA.tab {fa : List He.Fa} {fn : List He.DefD} {ls : List LowD} {ex : Frag → Bool} {ts : List He.Tab} {w : World} {K : Frag} (c : SaysA fa fn ls ex ts w K) (i : Nat) {t : He.Tab} (h : ts[i]? = some t := by rfl) : ∃ es n, L2.KDict K w (t.1 K) es n := by
  have e2 : (ts.map fun t => He.dicW K (t.1 K))[i]? = (ts.map fun t => some (He.keysIn w.params t.2))[i]? := by rw [c.tabs]
  rw [List.getElem?_map, List.getElem?_map, h] at e2
  exact He.dicW_ok (Option.some.inj e2)
end Lo

/-! LawV: the law's def, read over plain data, as the head wants it. -/
namespace VL
open PySem PySem.Spec PyProof.Rows L2
def spLawV (K : PySem.W.Frag) : Sp := fun vs H Q _ => ∃ (a : Addr) (ns : List Int), vs = [.ref a] ∧ Only H ∧ SqL K H a (ns.map V.int) ∧ ∀ H', Q (.bl true) H'
def mo0 (H : Hp) : Mo := ⟨fun _ => 0, H, []⟩
theorem rp_script {K : PySem.W.Frag} {H : Hp} {a : Addr} {ns : List Int} (o : Only H) (h : SqL K H a (ns.map V.int)) : Rp K (mo0 H) (.scr ns) (.ref a) := by
  rcases h with h | h
  · rcases h with h | ⟨ob, h⟩
    · rcases o a with e | ⟨ob, xs, e⟩
      · rw [h] at e; cases e
      · rw [h] at e; cases e
    · exact .scr (.inl ⟨ob, rfl, h⟩)
  · exact .scr (.inr (.inr h))
theorem fn_law {P : Program} {w : World} {K : PySem.W.Frag} {mg : Str → Option Value} {base : Heap} {f : Addr} {fd : FuncData} {N : List Str} {t : VTS} {x : Str} {st : Stmt} {k : Nat} (Fd : FunD K x x (defArgs st) (defBody st) (defScope st) [] [] f fd) (S : FnScope N ["script"] (defScope st))
    (hd : ∀ (cdv : Value) (A : Around) (outer : List Env) (s : Shared) (H : Hp) (E : XK), Room k (A.deeper (envOfC x (defScope st) s.heap.objs.size f cdv)) →
      VSs (cxOf (CXr P w) P w K mg base N x (defScope st) f cdv A outer s H E) (fun cls d _ H => E cls d H) (defBody st) t)
    (hp : ∀ ns : List Int, vDef N t [.scr ns] [] (fun x _ => x = .fz (.bl true)) fun _ _ => False) : FnOk P w K mg base CX0 (k + 1) f fd ["script"] (spLawV K) := by
  have F' : FnOk P w K mg base (CXr P w) (k + 1) f fd ["script"] (fun vs H Q E => spLawV K vs H Q E ∧ E = fun _ _ _ => False) := by
    refine Fd.ok S (fun vs H Q E h => ?_) (fun cdv A outer s H vs Q E hr h => ?_)
    · obtain ⟨⟨a, ns, rfl, _⟩, _⟩ := h
      rfl
    · obtain ⟨⟨a, ns, rfl, o, hS, hQ⟩, rfl⟩ := h
      refine ⟨_, pss_u, def_core (g := mo0 H) (ds := [.scr ns]) (st := []) ⟨rfl, List.nodup_nil, fun n cl e => by simp at e⟩ (.one (rp_script o hS)) (hd cdv A outer s H _ hr) (hp ns) (fun x st' e g' v _ _ _ r => ?_) fun ex st' e => e.elim⟩
      subst e
      cases r
      exact hQ _
  refine ⟨fun vs H Q E h => F'.len vs H Q (fun _ _ _ => False) ⟨h, rfl⟩, fun A outer s H args us vs Q E hr he hb hv hs => ?_⟩
  refine codeAny_mono (F'.run A outer s H args us vs Q (fun _ _ _ => False) hr he hb hv ⟨hs, rfl⟩) fun r s' h => ?_
  cases r with
  | ok c =>
    cases c with
    | ret u => exact h
    | _ => exact h.elim
  | error e =>
    obtain ⟨_, _, _, _, _, _, _, _, _, _, _, _, h⟩ := (show L2.CX P w outer H s (fun _ _ _ => False) e s' from h)
    exact h.elim
end VL


namespace MK
open PySem L2 VL

local macro_rules | `(tactic| k_extra "sd") => `(tactic| first
  | assumption
  | exact Nat.le_of_ble_eq_true rfl
  | ((try simp only [sz16, List.length_append, List.length_cons, List.length_nil, List.length_map, List.length_replicate]); omega)
  | decide
  | decide +kernel)
local macro_rules | `(tactic| k_extra "sd2") => `(tactic| first
  | trivial
  | ((with_reducible show look _ _ _); first | (refine x_lkV ?_; trivial) | (refine' x_lkF ?e ?k; (case e => rfl); (case k => trivial)) | (refine' x_lkO ?e ?k; (case e => rfl); (case k => trivial)))
  | k_extra "sd")
local macro_rules | `(tactic| k_extra "fc") => `(tactic| fail)
local macro_rules | `(tactic| k_extra "yd") => `(tactic| first
  | ((with_reducible show inD _ _ _); first | (refine' y_inT ?f ?g ?k; (case f => rfl); (case g => rfl)) | (refine' y_inL ?f ?g ?k; (case f => rfl); (case g => rfl)) | refine y_inS ?_ | (refine' y_inD ?e ?k; (case e => rfl)))
  | ((with_reducible show ixD _ _ _); first | (refine' y_ixT ?e ?k; (case e => rfl)) | (refine' y_ixL ?e ?k; (case e => rfl)) | (refine' y_ixT ?e ?k; (case e => assumption)) | (refine' y_ixL ?e ?k; (case e => assumption)) | (refine' y_ixT ?e ?k; (case e => exact atI_0)) | (refine' y_ixT ?e ?k; (case e => exact atI_1)) | (refine' y_ixT ?e ?k; (case e => exact atI_2)) | (refine' y_ixL ?e ?k; (case e => exact atI_0)) | (refine' y_ixD ?e ?e2 ?k; (case e => rfl); (case e2 => assumption)))
  | ((with_reducible show slD _ _ _ _); first | refine y_slL ?_ | refine sl_1 ?_ | refine sl_2 ?_ | (refine' y_slT ?n ?k; (case n => decide)) | (refine' y_slS ?l ?k; (case l => k_extra "sd")))
  | ((with_reducible show eqD _ _ _); refine' y_eq ?e ?k; (case e => rfl))
  | ((with_reducible show neD _ _ _); refine' y_ne ?e ?k; (case e => rfl))
  | ((with_reducible show strD _ _); first | refine y_strS ?_ | (refine' y_strI ?l ?k; (case l => k_extra "sd")))
  | ((with_reducible show allD _ _ _); refine y_allT ?_)
  | ((with_reducible show allD _ _ _); refine' y_all ?e ?k; (case e => first | assumption | rfl))
  | ((with_reducible show setD _ _ _ _); first | (refine' y_setL ?e ?k; (case e => rfl)) | (refine' y_setD ?e ?l ?k; (case e => rfl); (case l => k_extra "sd"))))
local macro_rules | `(tactic| k_extra "y") => `(tactic| first
  | ((with_reducible show And _ _); refine' And.intro ?l ?k; (case l => k_extra "sd2"))
  | ((with_reducible show ite _ _ _); first | refine iT (by first | rfl | decide) ?_ | refine iF (by first | decide) ?_ | (refine' iT ?h ?k; (case h => (simp; done))) | (refine' iF ?h ?k; (case h => (simp; done))) | fail)
  | ((with_reducible show br _ _ _); first | refine brT (by first | rfl | decide) ?_ | refine brF (by first | decide) ?_ | (refine' brT ?h ?k; (case h => (simp; done))) | (refine' brF ?h ?k; (case h => (simp; done))))
  | k_extra "yd"
  | k_extra "fc"
  | (fail_if_success (with_reducible show forV _ _ _ _ _ _ _)
     fail_if_success (with_reducible show compV _ _ _ _ _ _ _ _ _)
     fail_if_success (with_reducible show dcompV _ _ _ _ _ _ _ _ _ _)
     fail_if_success (with_reducible show Exists _)
     fail_if_success (with_reducible show And _ _)
     fail_if_success (refine' dupl ?i ?x; (case i => (conv => lhs; whnf)))
     conv => whnf))

def top (i : Nat) : Stmt := PySem.Challenge.pw_markwalls_k89_texts_that_are_shown.main.body.getD i (.Pass ⟨0, 0, 0, 0⟩)
abbrev FnP (K : PySem.W.Frag) (x : Str) (st : Stmt) (f : Addr) (fd : FuncData) : Prop := FunD K x x (defArgs st) (defBody st) (defScope st) [] [] f fd
abbrev s_shown_pairs : Stmt := top 14
theorem sc_shown_pairs : FnScope ["pairs", "found", "place", "number"] ["pairs"] (defScope s_shown_pairs) := ⟨rfl, rfl, rfl, by decide +kernel, rfl, by decide +kernel, by decide +kernel⟩
abbrev s_shown_net : Stmt := top 15
theorem sc_shown_net : FnScope ["net", "found", "place", "step", "takes", "gives"] ["net"] (defScope s_shown_net) := ⟨rfl, rfl, rfl, by decide +kernel, rfl, by decide +kernel, by decide +kernel⟩
abbrev s_shown_box : Stmt := top 16
theorem sc_shown_box : FnScope ["net", "box", "place"] ["net", "box"] (defScope s_shown_box) := ⟨rfl, rfl, rfl, by decide +kernel, rfl, by decide +kernel, by decide +kernel⟩
abbrev s_shown_whole : Stmt := top 17
theorem sc_shown_whole : FnScope ["number"] ["number"] (defScope s_shown_whole) := ⟨rfl, rfl, rfl, by decide +kernel, rfl, by decide +kernel, by decide +kernel⟩
abbrev s_shown_amount : Stmt := top 18
theorem sc_shown_amount : FnScope ["amount"] ["amount"] (defScope s_shown_amount) := ⟨rfl, rfl, rfl, by decide +kernel, rfl, by decide +kernel, by decide +kernel⟩
abbrev s_shown_word : Stmt := top 19
theorem sc_shown_word : FnScope ["net", "form", "thing"] ["net", "form", "thing"] (defScope s_shown_word) := ⟨rfl, rfl, rfl, by decide +kernel, rfl, by decide +kernel, by decide +kernel⟩
abbrev s_names_for : Stmt := top 20
theorem sc_names_for : FnScope ["net", "which"] ["net", "which"] (defScope s_names_for) := ⟨rfl, rfl, rfl, by decide +kernel, rfl, by decide +kernel, by decide +kernel⟩
abbrev s_shown_parts : Stmt := top 21
theorem sc_shown_parts : FnScope ["net", "forms", "things", "found", "form", "thing"] ["net", "forms", "things"] (defScope s_shown_parts) := ⟨rfl, rfl, rfl, by decide +kernel, rfl, by decide +kernel, by decide +kernel⟩
abbrev s_first_words : Stmt := top 22
theorem sc_first_words : FnScope ["form"] ["form"] (defScope s_first_words) := ⟨rfl, rfl, rfl, by decide +kernel, rfl, by decide +kernel, by decide +kernel⟩
abbrev s_chosen : Stmt := top 23
theorem sc_chosen : FnScope ["form", "thing", "word", "one"] ["form", "thing"] (defScope s_chosen) := ⟨rfl, rfl, rfl, by decide +kernel, rfl, by decide +kernel, by decide +kernel⟩
abbrev s_words_of : Stmt := top 24
theorem sc_words_of : FnScope ["net", "form", "thing", "found", "name", "one"] ["net", "form", "thing"] (defScope s_words_of) := ⟨rfl, rfl, rfl, by decide +kernel, rfl, by decide +kernel, by decide +kernel⟩
abbrev s_step_names : Stmt := top 12
theorem sc_step_names : FnScope ["net", "name", "takes", "gives"] ["net"] (defScope s_step_names) := ⟨rfl, rfl, rfl, by decide +kernel, rfl, by decide +kernel, by decide +kernel⟩
abbrev s_show : Stmt := top 25
theorem sc_show : FnScope ["net", "kind", "thing"] ["net", "kind", "thing"] (defScope s_show) := ⟨rfl, rfl, rfl, by decide +kernel, rfl, by decide +kernel, by decide +kernel⟩
abbrev s__law_draws : Stmt := top 27
theorem sc__law_draws : FnScope ["script"] ["script"] (defScope s__law_draws) := ⟨rfl, rfl, rfl, by decide +kernel, rfl, by decide +kernel, by decide +kernel⟩
abbrev s__law_draw : Stmt := top 28
theorem sc__law_draw : FnScope ["draws", "limit", "cell", "value"] ["draws", "limit"] (defScope s__law_draw) := ⟨rfl, rfl, rfl, by decide +kernel, rfl, by decide +kernel, by decide +kernel⟩
abbrev s__law_same : Stmt := top 29
theorem sc__law_same : FnScope ["x", "due", "key", "right", "at"] ["x", "due"] (defScope s__law_same) := ⟨rfl, rfl, rfl, by decide +kernel, rfl, by decide +kernel, by decide +kernel⟩
abbrev s__law_copy : Stmt := top 30
theorem sc__law_copy : FnScope ["thing", "part", "found", "key"] ["thing"] (defScope s__law_copy) := ⟨rfl, rfl, rfl, by decide +kernel, rfl, by decide +kernel, by decide +kernel⟩
abbrev s__law_names : Stmt := top 31
theorem sc__law_names : FnScope ["draws", "many", "found", "order", "at", "k", "own", "text"] ["draws", "many"] (defScope s__law_names) := ⟨rfl, rfl, rfl, by decide +kernel, rfl, by decide +kernel, by decide +kernel⟩
abbrev s__law_gcd : Stmt := top 32
theorem sc__law_gcd : FnScope ["a", "b"] ["a", "b"] (defScope s__law_gcd) := ⟨rfl, rfl, rfl, by decide +kernel, rfl, by decide +kernel, by decide +kernel⟩
abbrev s__law_kinds : Stmt := top 33
theorem sc__law_kinds : FnScope [] [] (defScope s__law_kinds) := ⟨rfl, rfl, rfl, by decide +kernel, rfl, by decide +kernel, by decide +kernel⟩
abbrev s__law_form : Stmt := top 34
theorem sc__law_form : FnScope ["kind", "steps", "wall", "ladder", "marked", "entry", "deed"] ["kind"] (defScope s__law_form) := ⟨rfl, rfl, rfl, by decide +kernel, rfl, by decide +kernel, by decide +kernel⟩
abbrev s__law_other_form : Stmt := top 35
theorem sc__law_other_form : FnScope ["kind", "steps", "wall", "ladder", "marked", "entry", "deed", "moves", "floors"] ["kind", "steps", "wall", "ladder", "marked", "entry", "deed"] (defScope s__law_other_form) := ⟨rfl, rfl, rfl, by decide +kernel, rfl, by decide +kernel, by decide +kernel⟩
abbrev s__law_digits : Stmt := top 36
theorem sc__law_digits : FnScope ["draws", "kind"] ["draws"] (defScope s__law_digits) := ⟨rfl, rfl, rfl, by decide +kernel, rfl, by decide +kernel, by decide +kernel⟩
abbrev s__law_whole_made : Stmt := top 37
theorem sc__law_whole_made : FnScope ["draws", "number"] ["draws"] (defScope s__law_whole_made) := ⟨rfl, rfl, rfl, by decide +kernel, rfl, by decide +kernel, by decide +kernel⟩
abbrev s__law_amount_made : Stmt := top 38
theorem sc__law_amount_made : FnScope ["draws", "top", "words", "low"] ["draws"] (defScope s__law_amount_made) := ⟨rfl, rfl, rfl, by decide +kernel, rfl, by decide +kernel, by decide +kernel⟩
abbrev s__law_box_made : Stmt := top 39
theorem sc__law_box_made : FnScope ["draws", "net", "many", "found", "words", "place", "turned"] ["draws", "net", "many"] (defScope s__law_box_made) := ⟨rfl, rfl, rfl, by decide +kernel, rfl, by decide +kernel, by decide +kernel⟩
abbrev s__law_net_made : Stmt := top 40
theorem sc__law_net_made : FnScope ["net", "words", "place", "step", "takes", "gives", "number"] ["net"] (defScope s__law_net_made) := ⟨rfl, rfl, rfl, by decide +kernel, rfl, by decide +kernel, by decide +kernel⟩
abbrev s__law_plain_made : Stmt := top 41
theorem sc__law_plain_made : FnScope ["draws", "net", "form", "number", "name"] ["draws", "net", "form"] (defScope s__law_plain_made) := ⟨rfl, rfl, rfl, by decide +kernel, rfl, by decide +kernel, by decide +kernel⟩
abbrev s__law_made : Stmt := top 42
theorem sc__law_made : FnScope ["draws", "net", "form", "things", "words", "k", "thing", "more", "found", "name", "step", "part"] ["draws", "net", "form"] (defScope s__law_made) := ⟨rfl, rfl, rfl, by decide +kernel, rfl, by decide +kernel, by decide +kernel⟩
abbrev s__law_some_net : Stmt := top 43
theorem sc__law_some_net : FnScope ["draws", "names", "places", "rows", "k", "takes", "place", "gives"] ["draws"] (defScope s__law_some_net) := ⟨rfl, rfl, rfl, by decide +kernel, rfl, by decide +kernel, by decide +kernel⟩
abbrev s_law : Stmt := top 44
theorem sc_law : FnScope ["script", "draws", "turn", "net", "names", "kinds", "k", "kind", "thing", "words", "given", "text", "word", "sort"] ["script"] (defScope s_law) := ⟨rfl, rfl, rfl, by decide +kernel, rfl, by decide +kernel, by decide +kernel⟩
structure Blt (mg : Str → Option Value) : Prop where
  len : mg "len" = none
  int : mg "int" = none
  str : mg "str" = none
  bool : mg "bool" = none
  dict : mg "dict" = none
  list : mg "list" = none
  tuple : mg "tuple" = none
  range : mg "range" = none
  isinstance : mg "isinstance" = none
  all : mg "all" = none
  abs : mg "abs" = none
  sorted : mg "sorted" = none
  zip : mg "zip" = none
abbrev sw (ws : List Str) : List Dv := ws.map Dv.str
structure Net where
  name : Str
  pls : List Str
  sts : List (Str × List (Str × Int) × List (Str × Int))
def prD (p : Str × Int) : Dv := .tup [.str p.1, .int p.2]
def prV (p : Str × Dv) : Dv := .tup [.str p.1, p.2]
def rowD (r : Str × List (Str × Int) × List (Str × Int)) : Dv := .tup [.str r.1, .lst (r.2.1.map prD), .lst (r.2.2.map prD)]
def Net.d (n : Net) : Dv := .tup [.str "net", .str n.name, .lst (sw n.pls), .lst (n.sts.map rowD)]
def txD : Dv → Str
  | .int i => toString i
  | .str s => s
  | _ => ""
def TxOk : Dv → Prop
  | .int i => i.natAbs.log2 < 1920
  | .str _ => True
  | _ => False
def pairW (ps : List (Str × Dv)) : List Str := ps.flatMap fun p => [p.1, txD p.2]
theorem pairW_cons {p : Str × Dv} {ps : List (Str × Dv)} : pairW (p :: ps) = p.1 :: txD p.2 :: pairW ps := rfl
theorem pairW_len {ps : List (Str × Dv)} : (pairW ps).length = 2 * ps.length := by
  induction ps with
  | nil => rfl
  | cons p ps ih => rw [pairW_cons]; simp only [List.length_cons]; omega
theorem strD_tx {d : Dv} {st : List Cl} {Q : Sl → Prop} (h : TxOk d) (q : Q (.fz (.str (txD d)))) : strD (rslv st d) Q := by
  cases d <;> first | exact y_strS q | exact y_strI h q | exact h.elim
section
variable {P : Program} {w : World} {K : PySem.W.Frag} {mg : Str → Option Value} {base : Heap} {f aFORMS : Addr} {fd : FuncData}
def F_pairs : VSp := fun ds st Q R => ∃ ps : List (Str × Dv), ds = [.lst (ps.map prV)] ∧ (∀ p ∈ ps, TxOk p.2) ∧ ps.length ≤ 1000 ∧ Q (.fz (.lst (sw (pairW ps)))) st
theorem ok_pairs (F : FnP K "shown_pairs" s_shown_pairs f fd) (m : mg "shown_pairs" = some (.ref f)) (b : Binds K fd ["pairs"] []) (T : Blt mg) : VD P w K mg base 1 "shown_pairs" ["pairs"] F_pairs := by
  refine' mk_v F m b sc_shown_pairs ?der ?hl ?rd
  case hl => rintro ds st Q R ⟨ps, rfl, _⟩; rfl
  case der => exact
    fun cdv A outer s H E hr =>
      (vss_cons (vs_set (i := 1) sc_shown_pairs.nd rfl (by first | exact Or.inl rfl | exact Or.inr rfl) (ve_lst va_nil))
       (vss_cons (vs_for (passes_of rfl) rfl (vi_list (vnF 0)) (vg_tup (n := 2) rfl (vgs_cons (vg_name (i := 2) sc_shown_pairs.nd rfl (by first | exact Or.inl rfl | exact Or.inr rfl)) (vgs_cons (vg_name (i := 3) sc_shown_pairs.nd rfl (by first | exact Or.inl rfl | exact Or.inr rfl)) vgs_nil)))
        (vss_one (vs_set (i := 1) sc_shown_pairs.nd rfl (by first | exact Or.inl rfl | exact Or.inr rfl) (ve_bin ov_add (vnF 1) (ve_lst (va_c (vnF 2) (va_c (ve_bt bf_str (vpn 3) (by rfl) T.str (by decide +kernel)) va_nil)))))))
       (vss_one (vs_retF (vnF 1)))))
  case rd =>
    rintro ds st Q R ⟨ps, rfl, ht, hn, q⟩
    repeat k_extra "y"
    refine for_ind (fun rest s => ∃ qs rs x y, rest = rs.map prV ∧ ps = qs ++ rs ∧ s = ⟨[.fz (.lst (ps.map prV)), .ow (.lst (sw (pairW qs))), x, y], st⟩) ⟨[], ps, _, _, rfl, rfl, rfl⟩ ?_ ?_
    · rintro s ⟨qs, rs, x, y, e1, rfl, rfl⟩
      have : rs = [] := by cases rs with | nil => rfl | cons _ _ => cases e1
      subst this
      refine ⟨trivial, ?_⟩
      repeat k_extra "y"
      rw [List.append_nil] at q
      exact q
    · rintro d ds s ih ⟨qs, rs, x, y, e1, rfl, rfl⟩
      cases rs with
      | nil => cases e1
      | cons p rs =>
      cases e1
      have tp := ht p (by simp)
      have l1 := pairW_len (ps := qs)
      simp only [List.length_append, List.length_cons] at hn
      refine ⟨trivial, ?_⟩
      unfold prV
      repeat k_extra "y"
      refine strD_tx tp ?_
      repeat k_extra "y"
      exact ih _ ⟨qs ++ [p], rs, _, _, rfl, by simp, by simp only [pairW, sw, List.flatMap_append, List.map_append] <;> rfl⟩
end
end MK



namespace MK
open PySem L2 VL

local macro_rules | `(tactic| k_extra "sd") => `(tactic| first
  | assumption
  | exact Nat.le_of_ble_eq_true rfl
  | ((try simp only [sz16, List.length_append, List.length_cons, List.length_nil, List.length_map, List.length_replicate]); omega)
  | decide
  | decide +kernel)
local macro_rules | `(tactic| k_extra "sd2") => `(tactic| first
  | trivial
  | ((with_reducible show look _ _ _); first | (refine x_lkV ?_; trivial) | (refine' x_lkF ?e ?k; (case e => rfl); (case k => trivial)) | (refine' x_lkO ?e ?k; (case e => rfl); (case k => trivial)))
  | k_extra "sd")
local macro_rules | `(tactic| k_extra "fc") => `(tactic| fail)
local macro_rules | `(tactic| k_extra "yd") => `(tactic| first
  | ((with_reducible show inD _ _ _); first | (refine' y_inT ?f ?g ?k; (case f => rfl); (case g => rfl)) | (refine' y_inL ?f ?g ?k; (case f => rfl); (case g => rfl)) | refine y_inS ?_ | (refine' y_inD ?e ?k; (case e => rfl)))
  | ((with_reducible show ixD _ _ _); first | (refine' y_ixT ?e ?k; (case e => rfl)) | (refine' y_ixL ?e ?k; (case e => rfl)) | (refine' y_ixT ?e ?k; (case e => assumption)) | (refine' y_ixL ?e ?k; (case e => assumption)) | (refine' y_ixT ?e ?k; (case e => exact atI_0)) | (refine' y_ixT ?e ?k; (case e => exact atI_1)) | (refine' y_ixT ?e ?k; (case e => exact atI_2)) | (refine' y_ixL ?e ?k; (case e => exact atI_0)) | (refine' y_ixD ?e ?e2 ?k; (case e => rfl); (case e2 => assumption)))
  | ((with_reducible show slD _ _ _ _); first | refine y_slL ?_ | refine sl_1 ?_ | refine sl_2 ?_ | (refine' y_slT ?n ?k; (case n => decide)) | (refine' y_slS ?l ?k; (case l => k_extra "sd")))
  | ((with_reducible show eqD _ _ _); refine' y_eq ?e ?k; (case e => rfl))
  | ((with_reducible show neD _ _ _); refine' y_ne ?e ?k; (case e => rfl))
  | ((with_reducible show strD _ _); first | refine y_strS ?_ | (refine' y_strI ?l ?k; (case l => k_extra "sd")))
  | ((with_reducible show allD _ _ _); refine y_allT ?_)
  | ((with_reducible show allD _ _ _); refine' y_all ?e ?k; (case e => first | assumption | rfl))
  | ((with_reducible show setD _ _ _ _); first | (refine' y_setL ?e ?k; (case e => rfl)) | (refine' y_setD ?e ?l ?k; (case e => rfl); (case l => k_extra "sd"))))
local macro_rules | `(tactic| k_extra "y") => `(tactic| first
  | ((with_reducible show And _ _); refine' And.intro ?l ?k; (case l => k_extra "sd2"))
  | ((with_reducible show ite _ _ _); first | refine iT (by first | rfl | decide) ?_ | refine iF (by first | decide) ?_ | (refine' iT ?h ?k; (case h => (simp; done))) | (refine' iF ?h ?k; (case h => (simp; done))) | fail)
  | ((with_reducible show br _ _ _); first | refine brT (by first | rfl | decide) ?_ | refine brF (by first | decide) ?_ | (refine' brT ?h ?k; (case h => (simp; done))) | (refine' brF ?h ?k; (case h => (simp; done))))
  | k_extra "yd"
  | k_extra "fc"
  | (fail_if_success (with_reducible show forV _ _ _ _ _ _ _)
     fail_if_success (with_reducible show compV _ _ _ _ _ _ _ _ _)
     fail_if_success (with_reducible show dcompV _ _ _ _ _ _ _ _ _ _)
     fail_if_success (with_reducible show Exists _)
     fail_if_success (with_reducible show And _ _)
     fail_if_success (refine' dupl ?i ?x; (case i => (conv => lhs; whnf)))
     conv => whnf))

section
variable {P : Program} {w : World} {K : PySem.W.Frag} {mg : Str → Option Value} {base : Heap} {f aFORMS : Addr} {fd : FuncData}
def wholeW (i : Int) : List Str := if i < 0 then ["-", toString (0 - i)] else [toString i]
def F_whole : VSp := fun ds st Q R => ∃ i : Int, ds = [.int i] ∧ i.natAbs.log2 < 1920 ∧ Q (.fz (.lst (sw (wholeW i)))) st
theorem ok_whole (F : FnP K "shown_whole" s_shown_whole f fd) (m : mg "shown_whole" = some (.ref f)) (b : Binds K fd ["number"] []) (T : Blt mg) : VD P w K mg base 1 "shown_whole" ["number"] F_whole := by
  refine' mk_v F m b sc_shown_whole ?der ?hl ?rd
  case hl => rintro ds st Q R ⟨ps, rfl, _⟩; rfl
  case der => exact
    fun cdv A outer s H E hr =>
      (vss_one (vs_retF (ve_if (vc_cmp ov_lt (vnF 0) ve_int (nomark _)) (ve_lst (va_c ve_str (va_c (ve_bt bf_str (vp_val (ve_bin ov_sub ve_int (vnF 0))) (by rfl) T.str (by decide +kernel)) va_nil))) (ve_lst (va_c (ve_bt bf_str (vpn 0) (by rfl) T.str (by decide +kernel)) va_nil)))))
  case rd =>
    rintro ds st Q R ⟨i, rfl, ht, q⟩
    unfold wholeW at q
    have l2 : (0 - i).natAbs.log2 < 1920 := by rw [show (0 - i).natAbs = i.natAbs by omega]; exact ht
    repeat k_extra "y"
    refine ib rfl (fun h => ?_) (fun h => ?_)
    · rw [if_pos h] at q
      repeat k_extra "y"
      exact q
    · rw [if_neg h] at q
      repeat k_extra "y"
      exact q
def amountW (a b : Int) : List Str := wholeW a ++ (if 1 < b then ["/", toString b] else [] : List Str)
def F_amount : VSp := fun ds st Q R => ∃ a b : Int, ds = [.tup [.int a, .int b]] ∧ a.natAbs.log2 < 1920 ∧ b.natAbs.log2 < 1920 ∧ Q (.fz (.lst (sw (amountW a b)))) st
theorem wholeW_len {i : Int} : (wholeW i).length ≤ 2 := by
  unfold wholeW
  split <;> simp
theorem ok_amount (F : FnP K "shown_amount" s_shown_amount f fd) (m : mg "shown_amount" = some (.ref f)) (b : Binds K fd ["amount"] []) (T : Blt mg) (G_shown_whole : VD P w K mg base 1 "shown_whole" ["number"] F_whole) : VD P w K mg base 2 "shown_amount" ["amount"] F_amount := by
  refine' mk_v F m b sc_shown_amount ?der ?hl ?rd
  case hl => rintro ds st Q R ⟨_, _, rfl, _⟩; rfl
  case der => exact
    fun cdv A outer s H E hr =>
      (vss_one (vs_retF (ve_bin ov_add (ve_callP G_shown_whole (hr.mono (by omega)) (takes_of (E := E) rfl rfl rfl rfl) (va_c (ve_ix (hu_of hr) (vpn 0) ve_int (fun _ _ => rfl)) va_nil)) (ve_if (vc_cmp ov_gt (ve_ix (hu_of hr) (vpn 0) ve_int (fun _ _ => rfl)) ve_int (nomark _)) (ve_lst (va_c ve_str (va_c (ve_bt bf_str (vp_val (ve_ix (hu_of hr) (vpn 0) ve_int (fun _ _ => rfl))) (by rfl) T.str (by decide +kernel)) va_nil))) (ve_lst va_nil)))))
  case rd =>
    rintro ds st Q R ⟨a, c, rfl, h1, h2, q⟩
    unfold amountW at q
    have l := wholeW_len (i := a)
    repeat k_extra "y"
    refine ⟨a, rfl, h1, ?_⟩
    repeat k_extra "y"
    refine ib (c := (1 : Int) < c) rfl (fun h => ?_) (fun h => ?_)
    · rw [if_pos h] at q
      repeat k_extra "y"
      simp only [sw, List.map_append] at q
      exact q
    · rw [if_neg h] at q
      repeat k_extra "y"
      simp only [sw, List.map_append] at q
      exact q
structure Net.Ok (n : Net) : Prop where
  lp : n.pls.length ≤ 5
  lp0 : 0 < n.pls.length
  ls : n.sts.length ≤ 5
  ls0 : 0 < n.sts.length
  pr : ∀ r ∈ n.sts, r.2.1.length ≤ 5 ∧ r.2.2.length ≤ 5 ∧ ∀ p, p ∈ r.2.1 ∨ p ∈ r.2.2 → 0 ≤ p.2 ∧ p.2 ≤ 10 ^ 6 ∧ p.1.length ≤ 40
  nl : n.name.length ≤ 40
  pl : ∀ p ∈ n.pls, p.length ≤ 40
  sl : ∀ r ∈ n.sts, r.1.length ≤ 40
  ndp : n.pls.Nodup
  nds : (n.sts.map (·.1)).Nodup
def Net.stn (n : Net) : List Str := n.sts.map (·.1)
def F_stn : VSp := fun ds st Q R => ∃ n : Net, ds = [n.d] ∧ n.Ok ∧ Q (.fz (.lst (sw n.stn))) st
theorem ok_stn (F : FnP K "step_names" s_step_names f fd) (m : mg "step_names" = some (.ref f)) (b : Binds K fd ["net"] []) (T : Blt mg) : VD P w K mg base 1 "step_names" ["net"] F_stn := by
  refine' mk_v F m b sc_step_names ?der ?hl ?rd
  case hl => rintro ds st Q R ⟨ps, rfl, _⟩; rfl
  case der => exact
    fun cdv A outer s H E hr =>
      (vss_one (vs_retF (ve_lc (own := [("name", 1), ("takes", 2), ("gives", 3)]) (.tu [1, 2, 3]) rfl sc_step_names.nd (vi_list (ve_ix (hu_of hr) (vpn 0) ve_int (fun _ _ => rfl))) (blkOk_by (own := [("name", 1), ("takes", 2), ("gives", 3)]) (N := ["net", "name", "takes", "gives"]) (sc := (defScope s_step_names)) (by decide +kernel)) (fun _ _ _ _ _ => (pg_tup (n := 3) rfl (pgs_cons (pg_name (i := 1) sc_step_names.nd rfl (by first | exact Or.inl rfl | exact Or.inr rfl)) (pgs_cons (pg_name (i := 2) sc_step_names.nd rfl (by first | exact Or.inl rfl | exact Or.inr rfl)) (pgs_cons (pg_name (i := 3) sc_step_names.nd rfl (by first | exact Or.inl rfl | exact Or.inr rfl)) pgs_nil))))) (fun _ _ _ _ _ => vts_nil) (fun _ _ _ _ _ => (vnF 1)))))
  case rd =>
    rintro ds st Q R ⟨n, rfl, ok, q⟩
    have hn := ok.ls
    unfold Net.stn at q
    unfold Net.d
    repeat k_extra "y"
    refine comp_ind (fun rest acc s => ∃ rs qs, rest = rs.map rowD ∧ n.sts = qs ++ rs ∧ acc = sw (qs.map (·.1)) ∧ s = ⟨[.fz (.tup [.str "net", .str n.name, .lst (sw n.pls), .lst (n.sts.map rowD)]), .un, .un, .un], st⟩) ⟨n.sts, [], rfl, rfl, rfl, rfl⟩ ?_ ?_
    · rintro acc s ⟨rs, qs, e1, e2, rfl, rfl⟩
      have : rs = [] := by cases rs with | nil => rfl | cons _ _ => cases e1
      subst this
      rw [List.append_nil] at e2
      rw [e2] at q
      exact ⟨trivial, q⟩
    · rintro d ds acc s ih ⟨rs, qs, e1, e2, rfl, rfl⟩
      cases rs with
      | nil => cases e1
      | cons p rs =>
      cases e1
      refine ⟨trivial, ?_⟩
      unfold rowD
      have hl : qs.length ≤ 5 := by rw [e2] at hn; simp at hn; omega
      refine ⟨rfl, ?_⟩
      repeat k_extra "y"
      exact ih _ _ ⟨rs, qs ++ [p], rfl, by simp [e2], by simp only [sw, List.map_append, List.map_map] <;> rfl, rfl⟩
def F_nf : VSp := fun ds st Q R => ∃ (n : Net) (wh : Str) (ns : List Str), ds = [n.d, .str wh] ∧ n.Ok ∧ ((wh = "step" ∧ ns = n.stn) ∨ (wh = "place" ∧ ns = n.pls)) ∧ Q (.fz (.lst (sw ns))) st
theorem ok_nf (F : FnP K "names_for" s_names_for f fd) (m : mg "names_for" = some (.ref f)) (b : Binds K fd ["net", "which"] []) (T : Blt mg) (G_step_names : VD P w K mg base 1 "step_names" ["net"] F_stn) : VD P w K mg base 2 "names_for" ["net", "which"] F_nf := by
  refine' mk_v F m b sc_names_for ?der ?hl ?rd
  case hl => rintro ds st Q R ⟨_, _, _, rfl, _⟩; rfl
  case der => exact
    fun cdv A outer s H E hr =>
      (vss_one (vs_retF (ve_if (vc_cmp (ov_eq hr.units) (vnF 1) ve_str (nomark _)) (ve_callP G_step_names (hr.mono (by omega)) (takes_of (E := E) rfl rfl rfl rfl) (va_c (vnF 0) va_nil)) (ve_bt (bf_list rfl) (vp_val (ve_ix (hu_of hr) (vpn 0) ve_int (fun _ _ => rfl))) (by rfl) T.list (by decide +kernel)))))
  case rd =>
    rintro ds st Q R ⟨n, wh, ns, rfl, ok, h, q⟩
    rcases h with ⟨rfl, rfl⟩ | ⟨rfl, rfl⟩
    · repeat k_extra "y"
      exact ⟨n, rfl, ok, q⟩
    · unfold Net.d
      repeat k_extra "y"
      exact q
end
end MK



namespace MK
open PySem L2 VL

local macro_rules | `(tactic| k_extra "sd") => `(tactic| first
  | assumption
  | exact Nat.le_of_ble_eq_true rfl
  | ((try simp only [sz16, List.length_append, List.length_cons, List.length_nil, List.length_map, List.length_replicate]); omega)
  | decide
  | decide +kernel)
local macro_rules | `(tactic| k_extra "sd2") => `(tactic| first
  | trivial
  | ((with_reducible show look _ _ _); first | (refine x_lkV ?_; trivial) | (refine' x_lkF ?e ?k; (case e => rfl); (case k => trivial)) | (refine' x_lkO ?e ?k; (case e => rfl); (case k => trivial)))
  | k_extra "sd")
local macro_rules | `(tactic| k_extra "fc") => `(tactic| fail)
local macro_rules | `(tactic| k_extra "yd") => `(tactic| first
  | ((with_reducible show inD _ _ _); first | (refine' y_inT ?f ?g ?k; (case f => rfl); (case g => rfl)) | (refine' y_inL ?f ?g ?k; (case f => rfl); (case g => rfl)) | refine y_inS ?_ | (refine' y_inD ?e ?k; (case e => rfl)))
  | ((with_reducible show ixD _ _ _); first | (refine' y_ixT ?e ?k; (case e => rfl)) | (refine' y_ixL ?e ?k; (case e => rfl)) | (refine' y_ixT ?e ?k; (case e => assumption)) | (refine' y_ixL ?e ?k; (case e => assumption)) | (refine' y_ixT ?e ?k; (case e => exact atI_0)) | (refine' y_ixT ?e ?k; (case e => exact atI_1)) | (refine' y_ixT ?e ?k; (case e => exact atI_2)) | (refine' y_ixL ?e ?k; (case e => exact atI_0)) | (refine' y_ixD ?e ?e2 ?k; (case e => rfl); (case e2 => assumption)))
  | ((with_reducible show slD _ _ _ _); first | refine y_slL ?_ | refine sl_1 ?_ | refine sl_2 ?_ | (refine' y_slT ?n ?k; (case n => decide)) | (refine' y_slS ?l ?k; (case l => k_extra "sd")))
  | ((with_reducible show eqD _ _ _); refine' y_eq ?e ?k; (case e => rfl))
  | ((with_reducible show neD _ _ _); refine' y_ne ?e ?k; (case e => rfl))
  | ((with_reducible show strD _ _); first | refine y_strS ?_ | (refine' y_strI ?l ?k; (case l => k_extra "sd")))
  | ((with_reducible show allD _ _ _); refine y_allT ?_)
  | ((with_reducible show allD _ _ _); refine' y_all ?e ?k; (case e => first | assumption | rfl))
  | ((with_reducible show setD _ _ _ _); first | (refine' y_setL ?e ?k; (case e => rfl)) | (refine' y_setD ?e ?l ?k; (case e => rfl); (case l => k_extra "sd"))))
local macro_rules | `(tactic| k_extra "y") => `(tactic| first
  | ((with_reducible show And _ _); refine' And.intro ?l ?k; (case l => k_extra "sd2"))
  | ((with_reducible show ite _ _ _); first | refine iT (by first | rfl | decide) ?_ | refine iF (by first | decide) ?_ | (refine' iT ?h ?k; (case h => (simp; done))) | (refine' iF ?h ?k; (case h => (simp; done))) | fail)
  | ((with_reducible show br _ _ _); first | refine brT (by first | rfl | decide) ?_ | refine brF (by first | decide) ?_ | (refine' brT ?h ?k; (case h => (simp; done))) | (refine' brF ?h ?k; (case h => (simp; done))))
  | k_extra "yd"
  | k_extra "fc"
  | (fail_if_success (with_reducible show forV _ _ _ _ _ _ _)
     fail_if_success (with_reducible show compV _ _ _ _ _ _ _ _ _)
     fail_if_success (with_reducible show dcompV _ _ _ _ _ _ _ _ _ _)
     fail_if_success (with_reducible show Exists _)
     fail_if_success (with_reducible show And _ _)
     fail_if_success (refine' dupl ?i ?x; (case i => (conv => lhs; whnf)))
     conv => whnf))

section
variable {P : Program} {w : World} {K : PySem.W.Frag} {mg : Str → Option Value} {base : Heap} {f aFORMS : Addr} {fd : FuncData}
def vi (ps : List (Str × Int)) : List (Str × Dv) := ps.map fun p => (p.1, .int p.2)
theorem vi_map {ps : List (Str × Int)} : (vi ps).map prV = ps.map prD := by
  unfold vi
  rw [List.map_map]
  rfl
theorem log6 {i : Int} (h : 0 ≤ i ∧ i ≤ 10 ^ 6) : i.natAbs.log2 < 1920 := by
  have h1 : i.natAbs < 2 ^ 20 := by omega
  have h2 := Nat.log2_lt (n := i.natAbs) (k := 20)
  by_cases z : i.natAbs = 0
  · rw [z]; decide
  · have := (h2 z).mpr h1
    omega
theorem vi_ok {n : Net} (ok : n.Ok) {r : Str × List (Str × Int) × List (Str × Int)} (h : r ∈ n.sts) : (∀ p ∈ vi r.2.1, TxOk p.2) ∧ ∀ p ∈ vi r.2.2, TxOk p.2 := by
  obtain ⟨_, _, h3⟩ := ok.pr r h
  constructor
  · intro p hp
    obtain ⟨q, hq, rfl⟩ := List.mem_map.mp hp
    exact log6 ⟨(h3 q (.inl hq)).1, (h3 q (.inl hq)).2.1⟩
  · intro p hp
    obtain ⟨q, hq, rfl⟩ := List.mem_map.mp hp
    exact log6 ⟨(h3 q (.inr hq)).1, (h3 q (.inr hq)).2.1⟩
def rowW (r : Str × List (Str × Int) × List (Str × Int)) : List Str := (["step", r.1, "takes"] : List Str) ++ pairW (vi r.2.1) ++ (["gives"] : List Str) ++ pairW (vi r.2.2)
def netW (n : Net) : List Str := (["net", n.name] : List Str) ++ n.pls.flatMap (fun p => (["place", p] : List Str)) ++ n.sts.flatMap rowW ++ (["end"] : List Str)
theorem rowW_len {n : Net} (ok : n.Ok) {r : Str × List (Str × Int) × List (Str × Int)} (h : r ∈ n.sts) : (rowW r).length ≤ 24 := by
  obtain ⟨h1, h2, _⟩ := ok.pr r h
  unfold rowW
  simp only [List.length_append, pairW_len, vi, List.length_map, List.length_cons, List.length_nil]
  omega
def F_net : VSp := fun ds st Q R => ∃ n : Net, ds = [n.d] ∧ n.Ok ∧ Q (.fz (.lst (sw (netW n)))) st
theorem ok_net (F : FnP K "shown_net" s_shown_net f fd) (m : mg "shown_net" = some (.ref f)) (b : Binds K fd ["net"] []) (T : Blt mg) (G_shown_pairs : VD P w K mg base 1 "shown_pairs" ["pairs"] F_pairs) : VD P w K mg base 2 "shown_net" ["net"] F_net := by
  refine' mk_v F m b sc_shown_net ?der ?hl ?rd
  case hl => rintro ds st Q R ⟨ps, rfl, _⟩; rfl
  case der => exact
    fun cdv A outer s H E hr =>
      (vss_cons (vs_set (i := 1) sc_shown_net.nd rfl (by first | exact Or.inl rfl | exact Or.inr rfl) (ve_lst (va_c ve_str (va_c (ve_ix (hu_of hr) (vpn 0) ve_int (fun _ _ => rfl)) va_nil))))
       (vss_cons (vs_for (passes_of rfl) rfl (vi_list (ve_ix (hu_of hr) (vpn 0) ve_int (fun _ _ => rfl))) (vg_name (i := 2) sc_shown_net.nd rfl (by first | exact Or.inl rfl | exact Or.inr rfl))
        (vss_one (vs_set (i := 1) sc_shown_net.nd rfl (by first | exact Or.inl rfl | exact Or.inr rfl) (ve_bin ov_add (vnF 1) (ve_lst (va_c ve_str (va_c (vnF 2) va_nil)))))))
       (vss_cons (vs_for (passes_of rfl) rfl (vi_list (ve_ix (hu_of hr) (vpn 0) ve_int (fun _ _ => rfl))) (vg_tup (n := 3) rfl (vgs_cons (vg_name (i := 3) sc_shown_net.nd rfl (by first | exact Or.inl rfl | exact Or.inr rfl)) (vgs_cons (vg_name (i := 4) sc_shown_net.nd rfl (by first | exact Or.inl rfl | exact Or.inr rfl)) (vgs_cons (vg_name (i := 5) sc_shown_net.nd rfl (by first | exact Or.inl rfl | exact Or.inr rfl)) vgs_nil))))
        (vss_one (vs_set (i := 1) sc_shown_net.nd rfl (by first | exact Or.inl rfl | exact Or.inr rfl) (ve_bin ov_add (ve_bin ov_add (ve_bin ov_add (ve_bin ov_add (vnF 1) (ve_lst (va_c ve_str (va_c (vnF 3) (va_c ve_str va_nil))))) (ve_callP G_shown_pairs (hr.mono (by omega)) (takes_of (E := E) rfl rfl rfl rfl) (va_c (vnF 4) va_nil))) (ve_lst (va_c ve_str va_nil))) (ve_callP G_shown_pairs (hr.mono (by omega)) (takes_of (E := E) rfl rfl rfl rfl) (va_c (vnF 5) va_nil))))))
       (vss_one (vs_retF (ve_bin ov_add (vnF 1) (ve_lst (va_c ve_str va_nil))))))))
  case rd =>
    rintro ds st Q R ⟨n, rfl, ok, q⟩
    have hp := ok.lp
    have hs := ok.ls
    unfold netW at q
    unfold Net.d
    repeat k_extra "y"
    refine for_ind (fun rest s => ∃ rs qs x, rest = sw rs ∧ n.pls = qs ++ rs ∧ s = ⟨[.fz n.d, .ow (.lst (sw ((["net", n.name] : List Str) ++ qs.flatMap fun p => (["place", p] : List Str)))), x, .un, .un, .un], st⟩) ⟨n.pls, [], _, rfl, rfl, rfl⟩ ?_ ?_
    · rintro s ⟨rs, qs, x, e1, e2, rfl⟩
      have : rs = [] := by cases rs with | nil => rfl | cons _ _ => cases e1
      subst this
      rw [List.append_nil] at e2
      refine ⟨trivial, ?_⟩
      unfold Net.d
      repeat k_extra "y"
      rw [← e2]
      have hq : ((["net", n.name] : List Str) ++ n.pls.flatMap fun p => (["place", p] : List Str)).length ≤ 12 := by
        simp only [List.length_append, List.length_flatMap, List.length_cons, List.length_nil, List.map_const', List.sum_replicate_nat]
        omega
      generalize ((["net", n.name] : List Str) ++ n.pls.flatMap fun p => (["place", p] : List Str)) = w0 at q hq
      refine for_ind (fun rest s => ∃ rs qs ws p x y z, rest = rs.map rowD ∧ n.sts = qs ++ rs ∧ ws = w0 ++ qs.flatMap rowW ∧ ws.length + 24 * rs.length ≤ 12 + 24 * 5 ∧ s = ⟨[.fz n.d, .ow (.lst (sw ws)), p, x, y, z], st⟩) ⟨n.sts, [], w0, _, _, _, _, rfl, rfl, by simp, by omega, rfl⟩ ?_ ?_
      · rintro s ⟨rs, qs, ws, p, x, y, z, e1, e3, e4, l, rfl⟩
        have : rs = [] := by cases rs with | nil => rfl | cons _ _ => cases e1
        subst this
        rw [List.append_nil] at e3
        rw [← e3] at e4
        rw [← e4] at q
        refine ⟨trivial, ?_⟩
        repeat k_extra "y"
        simp only [sw, List.map_append] at q
        exact q
      · rintro d ds s ih ⟨rs, qs, ws, p, x, y, z, e1, e3, e4, l, rfl⟩
        cases rs with
        | nil => cases e1
        | cons r rs =>
        cases e1
        have mr : r ∈ n.sts := by rw [e3]; simp
        have rl := rowW_len ok mr
        obtain ⟨t1, t2⟩ := vi_ok ok mr
        obtain ⟨l1, l2, _⟩ := ok.pr r mr
        simp only [List.length_cons] at l
        refine ⟨trivial, ?_⟩
        unfold rowD
        rw [← vi_map, ← vi_map]
        repeat k_extra "y"
        refine ⟨_, rfl, t1, by simp only [vi, List.length_map]; omega, ?_⟩
        have e5 : (pairW (vi r.2.1)).length ≤ 10 := by rw [pairW_len, vi, List.length_map]; omega
        have e6 : (pairW (vi r.2.2)).length ≤ 10 := by rw [pairW_len, vi, List.length_map]; omega
        repeat k_extra "y"
        refine ⟨_, rfl, t2, by simp only [vi, List.length_map]; omega, ?_⟩
        repeat k_extra "y"
        refine' ih _ ⟨rs, qs ++ [r], ws ++ rowW r, _, _, _, _, rfl, by simp [e3], by rw [e4]; simp, by rw [List.length_append]; omega, ?e⟩
        case e =>
          unfold rowW
          simp only [sw, List.map_append, ← List.append_assoc]
          rfl
    · rintro d ds s ih ⟨rs, qs, x, e1, e2, rfl⟩
      cases rs with
      | nil => cases e1
      | cons r rs =>
      cases e1
      have l : qs.length ≤ 5 := by rw [e2] at hp; simp at hp; omega
      have l2 : (((["net", n.name] : List Str) ++ qs.flatMap fun p => (["place", p] : List Str)) : List Str).length ≤ 12 := by
        simp only [List.length_append, List.length_flatMap, List.length_cons, List.length_nil, List.map_const', List.sum_replicate_nat]
        omega
      refine ⟨trivial, ?_⟩
      generalize hw : ((["net", n.name] : List Str) ++ qs.flatMap fun p => (["place", p] : List Str)) = w1 at l2
      repeat k_extra "y"
      refine' ih _ ⟨rs, qs ++ [r], _, rfl, by simp [e2], ?e⟩
      case e =>
        rw [List.flatMap_append, ← List.append_assoc, hw]
        simp only [sw, List.map_append]
        rfl
def nz : Dv → Bool
  | .int i => !decide (i = 0)
  | _ => true
theorem ne0 {d : Dv} {Q : Sl → Prop} (h : TxOk d) (q : Q (.fz (.bl (nz d)))) : neD d (.int 0) Q := by
  cases d <;> first | exact y_ne rfl q | exact h.elim
theorem TxOk.no {d : Dv} (h : TxOk d) : ∀ n, d ≠ .obj n := by
  intro n e
  subst e
  exact h
def boxW (n : Net) (g : Str → Dv) : List Str := (["at"] : List Str) ++ pairW ((n.pls.filter fun p => nz (g p)).map fun p => (p, g p)) ++ (["end"] : List Str)
def F_box : VSp := fun ds st Q R => ∃ (n : Net) (ks : List (Key × Dv)) (g : Str → Dv), ds = [n.d, .dic ks] ∧ n.Ok ∧ (∀ p ∈ n.pls, valD ks (.inr p) = some (g p) ∧ TxOk (g p)) ∧ Q (.fz (.lst (sw (boxW n g)))) st
theorem ok_box (F : FnP K "shown_box" s_shown_box f fd) (m : mg "shown_box" = some (.ref f)) (b : Binds K fd ["net", "box"] []) (T : Blt mg) (G_shown_pairs : VD P w K mg base 1 "shown_pairs" ["pairs"] F_pairs) : VD P w K mg base 2 "shown_box" ["net", "box"] F_box := by
  refine' mk_v F m b sc_shown_box ?der ?hl ?rd
  case hl => rintro ds st Q R ⟨_, _, _, rfl, _⟩; rfl
  case der => exact
    fun cdv A outer s H E hr =>
      (vss_one (vs_retF (ve_bin ov_add (ve_bin ov_add (ve_lst (va_c ve_str va_nil)) (ve_callP G_shown_pairs (hr.mono (by omega)) (takes_of (E := E) rfl rfl rfl rfl) (va_c (ve_lc (own := [("place", 2)]) (.nm 2) rfl sc_shown_box.nd (vi_list (ve_ix (hu_of hr) (vpn 0) ve_int (fun _ _ => rfl))) (blkOk_by (own := [("place", 2)]) (N := ["net", "box", "place"]) (sc := (defScope s_shown_box)) (by decide +kernel)) (fun _ _ _ _ _ => (pg_name (i := 2) sc_shown_box.nd rfl (by first | exact Or.inl rfl | exact Or.inr rfl))) (fun _ _ _ _ _ => (vts_one (vc_cmp (ov_ne hr.units) (ve_ix (hu_of hr) (vpn 1) (vnF 2) (fun _ _ => rfl)) ve_int (nomark _)))) (fun _ _ _ _ _ => (ve_tup (va_c (vnF 2) (va_c (ve_ix (hu_of hr) (vpn 1) (vnF 2) (fun _ _ => rfl)) va_nil))))) va_nil))) (ve_lst (va_c ve_str va_nil)))))
  case rd =>
    rintro ds st Q R ⟨n, ks, g, rfl, ok, hg, q⟩
    have hp := ok.lp
    unfold boxW at q
    unfold Net.d
    repeat k_extra "y"
    refine comp_ind (fun rest acc s => ∃ rs qs, rest = sw rs ∧ n.pls = qs ++ rs ∧ acc = ((qs.filter fun p => nz (g p)).map fun p => (p, g p)).map prV ∧ s = ⟨[.fz n.d, .fz (.dic ks), .un], st⟩) ⟨n.pls, [], rfl, rfl, rfl, rfl⟩ ?_ ?_
    · rintro acc s ⟨rs, qs, e1, e2, rfl, rfl⟩
      have : rs = [] := by cases rs with | nil => rfl | cons _ _ => cases e1
      subst this
      rw [List.append_nil] at e2
      rw [e2] at q hg hp
      refine ⟨trivial, ?_⟩
      have hl : ((qs.filter fun p => nz (g p)).map fun p => (p, g p)).length ≤ 5 := by
        rw [List.length_map]
        exact Nat.le_trans (List.length_filter_le _ _) hp
      repeat k_extra "y"
      refine ⟨_, rfl, ?_, by omega, ?_⟩
      · intro p hp
        obtain ⟨z, hz, rfl⟩ := List.mem_map.mp hp
        exact (hg z (List.mem_filter.mp hz).1).2
      · have e5 := pairW_len (ps := (qs.filter fun p => nz (g p)).map fun p => (p, g p))
        repeat k_extra "y"
        simp only [sw, List.map_append] at q
        exact q
    · rintro d ds acc s ih ⟨rs, qs, e1, e2, rfl, rfl⟩
      cases rs with
      | nil => cases e1
      | cons p rs =>
      cases e1
      obtain ⟨v1, v2⟩ := hg p (by rw [e2]; simp)
      have hl : ((qs.filter fun p => nz (g p)).map fun p => (p, g p)).length ≤ 5 := by
        rw [List.length_map]
        refine Nat.le_trans (List.length_filter_le _ _) ?_
        rw [e2] at hp
        simp at hp
        omega
      refine ⟨trivial, ?_⟩
      unfold Net.d
      repeat k_extra "y"
      refine ne0 v2 ?_
      repeat k_extra "y"
      cases hz : nz (g p) with
      | true =>
        try refine brT hz ?_
        repeat k_extra "y"
        refine ⟨by rw [List.length_map]; have := sz16; omega, ?_⟩
        exact ih _ _ ⟨rs, qs ++ [p], rfl, by simp [e2], by simp [hz] <;> rfl, rfl⟩
      | false =>
        try refine brF hz ?_
        exact ih _ _ ⟨rs, qs ++ [p], rfl, by simp [e2], by simp [hz], rfl⟩
end
end MK



namespace MK
open PySem L2 VL

local macro_rules | `(tactic| k_extra "sd") => `(tactic| first
  | assumption
  | exact Nat.le_of_ble_eq_true rfl
  | ((try simp only [sz16, List.length_append, List.length_cons, List.length_nil, List.length_map, List.length_replicate]); omega)
  | decide
  | decide +kernel)
local macro_rules | `(tactic| k_extra "sd2") => `(tactic| first
  | trivial
  | ((with_reducible show look _ _ _); first | (refine x_lkV ?_; trivial) | (refine' x_lkF ?e ?k; (case e => rfl); (case k => trivial)) | (refine' x_lkO ?e ?k; (case e => rfl); (case k => trivial)))
  | k_extra "sd")
local macro_rules | `(tactic| k_extra "fc") => `(tactic| fail)
local macro_rules | `(tactic| k_extra "yd") => `(tactic| first
  | ((with_reducible show inD _ _ _); first | (refine' y_inT ?f ?g ?k; (case f => rfl); (case g => rfl)) | (refine' y_inL ?f ?g ?k; (case f => rfl); (case g => rfl)) | refine y_inS ?_ | (refine' y_inD ?e ?k; (case e => rfl)))
  | ((with_reducible show ixD _ _ _); first | (refine' y_ixT ?e ?k; (case e => rfl)) | (refine' y_ixL ?e ?k; (case e => rfl)) | (refine' y_ixT ?e ?k; (case e => assumption)) | (refine' y_ixL ?e ?k; (case e => assumption)) | (refine' y_ixT ?e ?k; (case e => exact atI_0)) | (refine' y_ixT ?e ?k; (case e => exact atI_1)) | (refine' y_ixT ?e ?k; (case e => exact atI_2)) | (refine' y_ixL ?e ?k; (case e => exact atI_0)) | (refine' y_ixD ?e ?e2 ?k; (case e => rfl); (case e2 => assumption)))
  | ((with_reducible show slD _ _ _ _); first | refine y_slL ?_ | refine sl_1 ?_ | refine sl_2 ?_ | (refine' y_slT ?n ?k; (case n => decide)) | (refine' y_slS ?l ?k; (case l => k_extra "sd")))
  | ((with_reducible show eqD _ _ _); refine' y_eq ?e ?k; (case e => rfl))
  | ((with_reducible show neD _ _ _); refine' y_ne ?e ?k; (case e => rfl))
  | ((with_reducible show strD _ _); first | refine y_strS ?_ | (refine' y_strI ?l ?k; (case l => k_extra "sd")))
  | ((with_reducible show allD _ _ _); refine y_allT ?_)
  | ((with_reducible show allD _ _ _); refine' y_all ?e ?k; (case e => first | assumption | rfl))
  | ((with_reducible show setD _ _ _ _); first | (refine' y_setL ?e ?k; (case e => rfl)) | (refine' y_setD ?e ?l ?k; (case e => rfl); (case l => k_extra "sd"))))
local macro_rules | `(tactic| k_extra "y") => `(tactic| first
  | ((with_reducible show And _ _); refine' And.intro ?l ?k; (case l => k_extra "sd2"))
  | ((with_reducible show ite _ _ _); first | refine iT (by first | rfl | decide) ?_ | refine iF (by first | decide) ?_ | (refine' iT ?h ?k; (case h => (simp; done))) | (refine' iF ?h ?k; (case h => (simp; done))) | fail)
  | ((with_reducible show br _ _ _); first | refine brT (by first | rfl | decide) ?_ | refine brF (by first | decide) ?_ | (refine' brT ?h ?k; (case h => (simp; done))) | (refine' brF ?h ?k; (case h => (simp; done))))
  | k_extra "yd"
  | k_extra "fc"
  | (fail_if_success (with_reducible show forV _ _ _ _ _ _ _)
     fail_if_success (with_reducible show compV _ _ _ _ _ _ _ _ _)
     fail_if_success (with_reducible show dcompV _ _ _ _ _ _ _ _ _ _)
     fail_if_success (with_reducible show Exists _)
     fail_if_success (with_reducible show And _ _)
     fail_if_success (refine' dupl ?i ?x; (case i => (conv => lhs; whnf)))
     conv => whnf))

inductive Fm where
  | leaf (s : Str) | none | or (fs : List Fm) | list (f : Fm) | table (w : Str) (f : Fm) | tuple (t : Str) (fs : List Fm) | pair (fs : List Fm)
mutual
def fmD : Fm → Dv
  | .leaf s => .str s
  | .none => .tup [.str "none"]
  | .or fs => .tup (.str "or" :: fmDs fs)
  | .list f => .tup [.str "list", fmD f]
  | .table w f => .tup [.str "table", .str w, fmD f]
  | .tuple t fs => .tup (.str "tuple" :: .str t :: fmDs fs)
  | .pair fs => .tup (.str "pair" :: fmDs fs)
def fmDs : List Fm → List Dv
  | [] => []
  | f :: fs => fmD f :: fmDs fs
end
mutual
def dep : Fm → Nat
  | .leaf s => 1
  | .none => 1
  | .or fs => deps fs + 1
  | .list f => dep f + 1
  | .table w f => dep f + 1
  | .tuple t fs => deps fs + 1
  | .pair fs => deps fs + 1
def deps : List Fm → Nat
  | [] => 0
  | f :: fs => max (dep f) (deps fs)
end
theorem dep_pos (f : Fm) : 0 < dep f := by
  cases f <;> simp [dep]
def fwS : Fm → Option Str
  | .leaf _ => some "at"
  | .none => some "none"
  | .tuple t _ => some t
  | _ => Option.none
def wordOf : Dv → Option Str
  | .dic _ => some "at"
  | .non => some "none"
  | .tup (.str t :: _) => some t
  | _ => Option.none
mutual
inductive W (nd : Dv) : Fm → Dv → List Str → Prop
  | net (n : Net) (ok : n.Ok) : W nd (.leaf "net") n.d (netW n)
  | box (n : Net) (ok : n.Ok) (f : Str) (hf : f = "marking" ∨ f = "box") (ks : List (Key × Dv)) (g : Str → Dv) (e : nd = n.d) (hg : ∀ p ∈ n.pls, valD ks (.inr p) = some (g p) ∧ TxOk (g p)) : W nd (.leaf f) (.dic ks) (boxW n g)
  | whole (i : Int) (h : i.natAbs.log2 < 1920) : W nd (.leaf "whole") (.int i) (wholeW i)
  | amount (a b : Int) (h : a.natAbs.log2 < 1920) (h2 : b.natAbs.log2 < 1920) : W nd (.leaf "amount") (.tup [.int a, .int b]) (amountW a b)
  | text (f : Str) (d : Dv) (hf : f = "place" ∨ f = "step" ∨ f = "name" ∨ f = "number") (h : TxOk d) : W nd (.leaf f) d [txD d]
  | none : W nd .none .non ["none"]
  | or (fs rest : List Fm) (f : Fm) (thing : Dv) (ws : List Str) (w : Str) (hl : ∀ g ∈ fs, ∃ u, fwS g = some u) (hs : fs.length ≤ 100) (hw : wordOf thing = some w) (hc : fs.filter (fun f => decide (fwS f = some w)) = f :: rest) (h : W nd f thing ws) : W nd (.or fs) thing ws
  | tuple (t : Str) (fs : List Fm) (things : List Dv) (ws : List Str) (h : Ws nd fs things ws) : W nd (.tuple t fs) (.tup (.str t :: things)) (t :: ws)
  | pair (fs : List Fm) (things : List Dv) (ws : List Str) (h : Ws nd fs things ws) : W nd (.pair fs) (.tup things) ws
  | table (n : Net) (ok : n.Ok) (wh : Str) (f : Fm) (names : List Str) (ks : List (Key × Dv)) (ws : List Str) (e : nd = n.d) (hn : (wh = "step" ∧ names = n.stn) ∨ (wh = "place" ∧ names = n.pls)) (h : Wt nd f ks names ws) : W nd (.table wh f) (.dic ks) ws
  | list (f : Fm) (things : List Dv) (ws : List Str) (h : Wl nd f things ws) : W nd (.list f) (.lst things) (ws ++ (["end"] : List Str))
inductive Ws (nd : Dv) : List Fm → List Dv → List Str → Prop
  | nil : Ws nd [] [] []
  | cons {f : Fm} {d : Dv} {ws : List Str} {fs : List Fm} {ds : List Dv} {vs : List Str} (h : W nd f d ws) (r : Ws nd fs ds vs) : Ws nd (f :: fs) (d :: ds) (ws ++ vs)
inductive Wl (nd : Dv) : Fm → List Dv → List Str → Prop
  | nil {f : Fm} : Wl nd f [] []
  | cons {f : Fm} {d : Dv} {ws : List Str} {ds : List Dv} {vs : List Str} (h : W nd f d ws) (r : Wl nd f ds vs) : Wl nd f (d :: ds) (ws ++ vs)
inductive Wt (nd : Dv) : Fm → List (Key × Dv) → List Str → List Str → Prop
  | nil {f : Fm} {ks : List (Key × Dv)} : Wt nd f ks [] []
  | cons {f : Fm} {ks : List (Key × Dv)} {p : Str} {d : Dv} {ws : List Str} {ps : List Str} {vs : List Str} (hv : valD ks (.inr p) = some d) (h : W nd f d ws) (r : Wt nd f ks ps vs) : Wt nd f ks (p :: ps) (p :: ws ++ vs)
end
section
variable {P : Program} {w : World} {K : PySem.W.Frag} {mg : Str → Option Value} {base : Heap} {f aFORMS : Addr} {fd : FuncData}
def F_first : VSp := fun ds st Q R => ∃ (f : Fm) (u : Str), ds = [fmD f] ∧ fwS f = some u ∧ Q (.fz (.str u)) st
theorem ok_first (F : FnP K "first_words" s_first_words f fd) (m : mg "first_words" = some (.ref f)) (b : Binds K fd ["form"] []) (T : Blt mg) : VD P w K mg base 1 "first_words" ["form"] F_first := by
  refine' mk_v F m b sc_first_words ?der ?hl ?rd
  case hl => rintro ds st Q R ⟨_, _, rfl, _⟩; rfl
  case der => exact
    fun cdv A outer s H E hr =>
      (vss_cons (vs_if (vc_val (ve_bn bn_isi (va_c (vnF 0) (va_c (ve_bty (T := "str") (by rfl) T.str (by decide +kernel)) va_nil)) (by rfl) T.isinstance (by decide +kernel)))
        (vss_one (vs_retF ve_str))
        vss_nil)
       (vss_one (vs_retF (ve_if (vc_cmp (ov_eq hr.units) (ve_ix (hu_of hr) (vpn 0) ve_int (fun _ _ => rfl)) ve_str (nomark _)) ve_str (ve_ix (hu_of hr) (vpn 0) ve_int (fun _ _ => rfl))))))
  case rd =>
    rintro ds st Q R ⟨f, u, rfl, e, q⟩
    cases f <;> cases e <;> unfold fmD <;> (repeat k_extra "y") <;> exact q
theorem rslv_fm {st : List Cl} {f : Fm} : rslv st (fmD f) = fmD f := by cases f <;> rfl
def F_chosen : VSp := fun ds st Q R => ∃ (fs rest : List Fm) (f : Fm) (thing : Dv) (u : Str), ds = [fmD (.or fs), thing] ∧ (∀ g ∈ fs, ∃ u, fwS g = some u) ∧ fs.length ≤ 100 ∧ wordOf thing = some u ∧ fs.filter (fun f => decide (fwS f = some u)) = f :: rest ∧ Q (.fz (fmD f)) st
theorem fmDs_map (fs : List Fm) : fmDs fs = fs.map fmD := by
  induction fs with
  | nil => rfl
  | cons f fs ih => rw [fmDs, ih]; rfl
theorem ok_chosen (F : FnP K "chosen" s_chosen f fd) (m : mg "chosen" = some (.ref f)) (b : Binds K fd ["form", "thing"] []) (T : Blt mg) (G_first_words : VD P w K mg base 1 "first_words" ["form"] F_first) : VD P w K mg base 2 "chosen" ["form", "thing"] F_chosen := by
  refine' mk_v F m b sc_chosen ?der ?hl ?rd
  case hl => rintro ds st Q R ⟨_, _, _, _, _, rfl, _⟩; rfl
  case der => exact
    fun cdv A outer s H E hr =>
      (vss_cons (vs_set (i := 2) sc_chosen.nd rfl (by first | exact Or.inl rfl | exact Or.inr rfl) (ve_if (vc_val (ve_bn bn_isi (va_c (vnF 1) (va_c (ve_bty (T := "dict") (by rfl) T.dict (by decide +kernel)) va_nil)) (by rfl) T.isinstance (by decide +kernel))) ve_str (ve_if (vc_isN (vnF 1)) ve_str (ve_ix (hu_of hr) (vpn 1) ve_int (fun _ _ => rfl)))))
       (vss_one (vs_retF (ve_ix (hu_of hr) (vp_val (ve_lc (own := [("one", 3)]) (.nm 3) rfl sc_chosen.nd (vi_tup (ve_slice (vpn 0) (vo_some ve_int) vo_none)) (blkOk_by (own := [("one", 3)]) (N := ["form", "thing", "word", "one"]) (sc := (defScope s_chosen)) (by decide +kernel)) (fun _ _ _ _ _ => (pg_name (i := 3) sc_chosen.nd rfl (by first | exact Or.inl rfl | exact Or.inr rfl))) (fun _ _ _ _ _ => (vts_one (vc_cmp (ov_eq hr.units) (ve_callP G_first_words (hr.mono (by omega)) takes0 (va_c (vnF 3) va_nil)) (vnF 2) (nomark _)))) (fun _ _ _ _ _ => (vnF 3)))) ve_int (fun _ _ => rfl)))))
  case rd =>
    rintro ds st Q R ⟨fs, rest, f, thing, u, rfl, hl, hn, hw, hc, q⟩
    have e0 : fmD (.or fs) = .tup (.str "or" :: fs.map fmD) := by rw [fmD, fmDs_map]
    have th : (∃ ks, thing = .dic ks ∧ u = "at") ∨ (thing = .non ∧ u = "none") ∨ ∃ xs v, thing = .tup (.str v :: xs) ∧ u = v := by
      unfold wordOf at hw
      split at hw <;> cases hw <;> simp
    rw [e0]
    rcases th with ⟨ks, rfl, hu⟩ | ⟨rfl, hu⟩ | ⟨xs, v, rfl, hu⟩
    all_goals
      repeat k_extra "y"
      refine' comp_ind (fun rest acc s => ∃ rs qs v a b, rest = rs.map fmD ∧ fs = qs ++ rs ∧ acc = (qs.filter (fun f => decide (fwS f = some u))).map fmD ∧ v = u ∧ s = ⟨[a, b, .fz (.str v), .un], st⟩) ⟨fs, [], _, _, _, rfl, rfl, rfl, hu.symm, rfl⟩ ?n ?c
      case n =>
        rintro acc s ⟨rs, qs, v, a, b, e1, e2, rfl, e3, rfl⟩
        have : rs = [] := by cases rs with | nil => rfl | cons _ _ => cases e1
        subst this
        rw [List.append_nil] at e2
        rw [← e2, hc]
        refine ⟨trivial, ?_⟩
        repeat k_extra "y"
        exact q
      case c =>
        rintro d ds acc s ih ⟨rs, qs, v, a, b, e1, e2, rfl, e3, rfl⟩
        cases rs with
        | nil => cases e1
        | cons p rs =>
        cases e1
        obtain ⟨u1, hu1⟩ := hl p (by rw [e2]; simp)
        have l1 : (qs.filter (fun f => decide (fwS f = some u))).length ≤ 100 := by
          refine Nat.le_trans (List.length_filter_le _ _) ?_
          rw [e2] at hn
          simp at hn
          omega
        refine ⟨trivial, ?_⟩
        repeat k_extra "y"
        refine ⟨p, u1, rfl, hu1, ?_⟩
        repeat k_extra "y"
        refine ib (c := u1 = v) rfl (fun h => ?_) (fun h => ?_)
        · repeat k_extra "y"
          exact ih _ _ ⟨rs, qs ++ [p], _, _, _, rfl, by simp [e2], by first | (simp [hu1, h, e3]; done) | (simp [hu1, h, e3] <;> rfl), e3, rfl⟩
        · exact ih _ _ ⟨rs, qs ++ [p], _, _, _, rfl, by simp [e2], by simp [hu1, ← e3, h], e3, rfl⟩
def F_words (n : Nat) : VSp := fun ds st Q R => ∃ (nd : Dv) (fm : Fm) (thing : Dv) (ws : List Str), ds = [nd, fmD fm, thing] ∧ dep fm ≤ n ∧ W nd fm thing ws ∧ ws.length ≤ 1000000 ∧ Q (.fz (.lst (sw ws))) st
def F_parts (n : Nat) : VSp := fun ds st Q R => ∃ (nd : Dv) (fs : List Fm) (things : List Dv) (ws : List Str), ds = [nd, .tup (fmDs fs), .tup things] ∧ deps fs ≤ n ∧ Ws nd fs things ws ∧ ws.length ≤ 1000000 ∧ Q (.fz (.lst (sw ws))) st
theorem ok_parts {n : Nat} (F : FnP K "shown_parts" s_shown_parts f fd) (m : mg "shown_parts" = some (.ref f)) (b : Binds K fd ["net", "forms", "things"] []) (T : Blt mg) (G_words_of : VD P w K mg base (2 * n + 4) "words_of" ["net", "form", "thing"] (F_words n)) : VD P w K mg base (2 * n + 5) "shown_parts" ["net", "forms", "things"] (F_parts n) := by
  refine' mk_v F m b sc_shown_parts ?der ?hl ?rd
  case hl => rintro ds st Q R ⟨_, _, _, _, rfl, _⟩; rfl
  case der => exact
    fun cdv A outer s H E hr =>
      (vss_cons (vs_set (i := 3) sc_shown_parts.nd rfl (by first | exact Or.inl rfl | exact Or.inr rfl) (ve_lst va_nil))
       (vss_cons (vs_for (passes_of rfl) rfl (vi_zipT (by rfl) T.zip (va_c (vnF 1) (va_c (vnF 2) va_nil))) (vg_tup (n := 2) rfl (vgs_cons (vg_name (i := 4) sc_shown_parts.nd rfl (by first | exact Or.inl rfl | exact Or.inr rfl)) (vgs_cons (vg_name (i := 5) sc_shown_parts.nd rfl (by first | exact Or.inl rfl | exact Or.inr rfl)) vgs_nil)))
        (vss_one (vs_set (i := 3) sc_shown_parts.nd rfl (by first | exact Or.inl rfl | exact Or.inr rfl) (ve_bin ov_add (vnF 3) (ve_callP G_words_of (hr.mono (by omega)) (takes_of (E := E) rfl rfl rfl rfl) (va_c (vnF 0) (va_c (vnF 4) (va_c (vnF 5) va_nil))))))))
       (vss_one (vs_retF (vnF 3)))))
  case rd =>
    rintro ds st Q R ⟨nd, fs, things, ws, rfl, hd, hW, hn, q⟩
    repeat k_extra "y"
    refine for_ind (fun rest s => ∃ rs rt us vs x y, rest = zipD (fmDs rs) rt ∧ Ws nd rs rt vs ∧ deps rs ≤ n ∧ ws = us ++ vs ∧ s = ⟨[.fz nd, .fz (.tup (fmDs fs)), .fz (.tup things), .ow (.lst (sw us)), x, y], st⟩) ⟨fs, things, [], ws, _, _, rfl, hW, hd, rfl, rfl⟩ ?_ ?_
    · rintro s ⟨rs, rt, us, vs, x, y, e1, hw, _, rfl, rfl⟩
      refine ⟨trivial, ?_⟩
      cases hw with
      | nil =>
        repeat k_extra "y"
        rw [List.append_nil] at q
        exact q
      | cons h r => rw [fmDs, zip_cons] at e1; cases e1
    · rintro d ds s ih ⟨rs, rt, us, vs, x, y, e1, hw, hd, rfl, rfl⟩
      cases hw with
      | nil => cases e1
      | @cons f d ws fs ds vs h r =>
      rw [fmDs, zip_cons] at e1
      cases e1
      rw [deps] at hd
      simp only [List.length_append] at hn
      refine ⟨trivial, ?_⟩
      repeat k_extra "y"
      refine ⟨nd, f, d, ws, rfl, by omega, h, by omega, ?_⟩
      repeat k_extra "y"
      refine' ih _ ⟨fs, ds, us ++ ws, vs, _, _, rfl, r, by omega, by simp, ?e⟩
      case e =>
        simp only [sw, List.map_append]
        rfl
end
end MK



namespace MK
open PySem L2 VL

local macro_rules | `(tactic| k_extra "sd") => `(tactic| first
  | assumption
  | exact Nat.le_of_ble_eq_true rfl
  | ((try simp only [sz16, List.length_append, List.length_cons, List.length_nil, List.length_map, List.length_replicate]); omega)
  | decide
  | decide +kernel)
local macro_rules | `(tactic| k_extra "sd2") => `(tactic| first
  | trivial
  | ((with_reducible show look _ _ _); first | (refine x_lkV ?_; trivial) | (refine' x_lkF ?e ?k; (case e => rfl); (case k => trivial)) | (refine' x_lkO ?e ?k; (case e => rfl); (case k => trivial)))
  | k_extra "sd")
local macro_rules | `(tactic| k_extra "fc") => `(tactic| fail)
local macro_rules | `(tactic| k_extra "yd") => `(tactic| first
  | ((with_reducible show inD _ _ _); first | (refine' y_inT ?f ?g ?k; (case f => rfl); (case g => rfl)) | (refine' y_inL ?f ?g ?k; (case f => rfl); (case g => rfl)) | refine y_inS ?_ | (refine' y_inD ?e ?k; (case e => rfl)))
  | ((with_reducible show ixD _ _ _); first | (refine' y_ixT ?e ?k; (case e => rfl)) | (refine' y_ixL ?e ?k; (case e => rfl)) | (refine' y_ixT ?e ?k; (case e => assumption)) | (refine' y_ixL ?e ?k; (case e => assumption)) | (refine' y_ixT ?e ?k; (case e => exact atI_0)) | (refine' y_ixT ?e ?k; (case e => exact atI_1)) | (refine' y_ixT ?e ?k; (case e => exact atI_2)) | (refine' y_ixL ?e ?k; (case e => exact atI_0)) | (refine' y_ixD ?e ?e2 ?k; (case e => rfl); (case e2 => assumption)))
  | ((with_reducible show slD _ _ _ _); first | refine y_slL ?_ | refine sl_1 ?_ | refine sl_2 ?_ | (refine' y_slT ?n ?k; (case n => decide)) | (refine' y_slS ?l ?k; (case l => k_extra "sd")))
  | ((with_reducible show eqD _ _ _); refine' y_eq ?e ?k; (case e => rfl))
  | ((with_reducible show neD _ _ _); refine' y_ne ?e ?k; (case e => rfl))
  | ((with_reducible show strD _ _); first | refine y_strS ?_ | (refine' y_strI ?l ?k; (case l => k_extra "sd")))
  | ((with_reducible show allD _ _ _); refine y_allT ?_)
  | ((with_reducible show allD _ _ _); refine' y_all ?e ?k; (case e => first | assumption | rfl))
  | ((with_reducible show setD _ _ _ _); first | (refine' y_setL ?e ?k; (case e => rfl)) | (refine' y_setD ?e ?l ?k; (case e => rfl); (case l => k_extra "sd"))))
local macro_rules | `(tactic| k_extra "y") => `(tactic| first
  | ((with_reducible show And _ _); refine' And.intro ?l ?k; (case l => k_extra "sd2"))
  | ((with_reducible show ite _ _ _); first | refine iT (by first | rfl | decide) ?_ | refine iF (by first | decide) ?_ | (refine' iT ?h ?k; (case h => (simp; done))) | (refine' iF ?h ?k; (case h => (simp; done))) | fail)
  | ((with_reducible show br _ _ _); first | refine brT (by first | rfl | decide) ?_ | refine brF (by first | decide) ?_ | (refine' brT ?h ?k; (case h => (simp; done))) | (refine' brF ?h ?k; (case h => (simp; done))))
  | k_extra "yd"
  | k_extra "fc"
  | (fail_if_success (with_reducible show forV _ _ _ _ _ _ _)
     fail_if_success (with_reducible show compV _ _ _ _ _ _ _ _ _)
     fail_if_success (with_reducible show dcompV _ _ _ _ _ _ _ _ _ _)
     fail_if_success (with_reducible show Exists _)
     fail_if_success (with_reducible show And _ _)
     fail_if_success (refine' dupl ?i ?x; (case i => (conv => lhs; whnf)))
     conv => whnf))

section
variable {P : Program} {w : World} {K : PySem.W.Frag} {mg : Str → Option Value} {base : Heap} {f aFORMS : Addr} {fd : FuncData}
def F_word : VSp := fun ds st Q R => ∃ (nd : Dv) (f : Str) (thing : Dv) (ws : List Str), ds = [nd, .str f, thing] ∧ W nd (.leaf f) thing ws ∧ Q (.fz (.lst (sw ws))) st
theorem ok_word (F : FnP K "shown_word" s_shown_word f fd) (m : mg "shown_word" = some (.ref f)) (b : Binds K fd ["net", "form", "thing"] []) (T : Blt mg) (G_shown_net : VD P w K mg base 2 "shown_net" ["net"] F_net) (G_shown_box : VD P w K mg base 2 "shown_box" ["net", "box"] F_box) (G_shown_whole : VD P w K mg base 1 "shown_whole" ["number"] F_whole) (G_shown_amount : VD P w K mg base 2 "shown_amount" ["amount"] F_amount) : VD P w K mg base 3 "shown_word" ["net", "form", "thing"] F_word := by
  refine' mk_v F m b sc_shown_word ?der ?hl ?rd
  case hl => rintro ds st Q R ⟨_, _, _, _, rfl, _⟩; rfl
  case der => exact
    fun cdv A outer s H E hr =>
      (vss_cons (vs_if (vc_cmp (ov_eq hr.units) (vnF 1) ve_str (nomark _))
        (vss_one (vs_retF (ve_callP G_shown_net (hr.mono (by omega)) (takes_of (E := E) rfl rfl rfl rfl) (va_c (vnF 2) va_nil))))
        vss_nil)
       (vss_cons (vs_if (vc_in (hu_of hr) (vnF 1) (vp_val (ve_tup (va_c ve_str (va_c ve_str va_nil)))) (by rfl))
        (vss_one (vs_retF (ve_callP G_shown_box (hr.mono (by omega)) (takes_of (E := E) rfl rfl rfl rfl) (va_c (vnF 0) (va_c (vnF 2) va_nil)))))
        vss_nil)
       (vss_cons (vs_if (vc_cmp (ov_eq hr.units) (vnF 1) ve_str (nomark _))
        (vss_one (vs_retF (ve_callP G_shown_whole (hr.mono (by omega)) (takes_of (E := E) rfl rfl rfl rfl) (va_c (vnF 2) va_nil))))
        vss_nil)
       (vss_cons (vs_if (vc_cmp (ov_eq hr.units) (vnF 1) ve_str (nomark _))
        (vss_one (vs_retF (ve_callP G_shown_amount (hr.mono (by omega)) (takes_of (E := E) rfl rfl rfl rfl) (va_c (vnF 2) va_nil))))
        vss_nil)
       (vss_one (vs_retF (ve_lst (va_c (ve_bt bf_str (vpn 2) (by rfl) T.str (by decide +kernel)) va_nil))))))))
  case rd =>
    rintro ds st Q R ⟨nd, f, thing, ws, rfl, hW, q⟩
    cases hW with
    | net n ok =>
      repeat k_extra "y"
      exact ⟨n, rfl, ok, q⟩
    | box n ok f hf ks g e hg =>
      subst e
      rcases hf with rfl | rfl
      all_goals
        repeat k_extra "y"
        exact ⟨n, ks, g, rfl, ok, hg, q⟩
    | whole i h =>
      repeat k_extra "y"
      exact ⟨i, rfl, h, q⟩
    | amount a b h h2 =>
      repeat k_extra "y"
      exact ⟨a, b, rfl, h, h2, q⟩
    | text f d hf h =>
      rcases hf with rfl | rfl | rfl | rfl
      all_goals
        repeat k_extra "y"
        refine strD_tx h ?_
        repeat k_extra "y"
        exact q
theorem mem_head {fs rest : List Fm} {f : Fm} {p : Fm → Bool} (h : fs.filter p = f :: rest) : f ∈ fs := (List.mem_filter.mp (by rw [h]; simp : f ∈ fs.filter p)).1
theorem dep_mem {fs : List Fm} {f : Fm} (h : f ∈ fs) : dep f ≤ deps fs := by
  induction fs with
  | nil => cases h
  | cons g fs ih =>
    rw [deps]
    rcases List.mem_cons.mp h with rfl | h
    · omega
    · have := ih h
      omega
theorem ok_words0 (F : FnP K "words_of" s_words_of f fd) (m : mg "words_of" = some (.ref f)) (b : Binds K fd ["net", "form", "thing"] []) : VD P w K mg base 4 "words_of" ["net", "form", "thing"] (F_words 0) := by
  refine mk_v0 F m b sc_words_of ?_
  rintro ds st Q R ⟨nd, fm, thing, ws, rfl, hd, _⟩
  have := dep_pos fm
  omega
theorem ok_words {n : Nat} (F : FnP K "words_of" s_words_of f fd) (m : mg "words_of" = some (.ref f)) (b : Binds K fd ["net", "form", "thing"] []) (T : Blt mg) (G_shown_word : VD P w K mg base 3 "shown_word" ["net", "form", "thing"] F_word) (G_chosen : VD P w K mg base 2 "chosen" ["form", "thing"] F_chosen) (G_names_for : VD P w K mg base 2 "names_for" ["net", "which"] F_nf)
    (G_words_of : VD P w K mg base (2 * n + 4) "words_of" ["net", "form", "thing"] (F_words n)) (G_shown_parts : VD P w K mg base (2 * n + 5) "shown_parts" ["net", "forms", "things"] (F_parts n)) : VD P w K mg base (2 * (n + 1) + 4) "words_of" ["net", "form", "thing"] (F_words (n + 1)) := by
  refine' mk_v F m b sc_words_of ?der ?hl ?rd
  case hl => rintro ds st Q R ⟨_, _, _, _, rfl, _⟩; rfl
  case der => exact
    fun cdv A outer s H E hr =>
      (vss_cons (vs_if (vc_val (ve_bn bn_isi (va_c (vnF 1) (va_c (ve_bty (T := "str") (by rfl) T.str (by decide +kernel)) va_nil)) (by rfl) T.isinstance (by decide +kernel)))
        (vss_one (vs_retF (ve_callP G_shown_word (hr.mono (by omega)) (takes_of (E := E) rfl rfl rfl rfl) (va_c (vnF 0) (va_c (vnF 1) (va_c (vnF 2) va_nil))))))
        vss_nil)
       (vss_cons (vs_if (vc_cmp (ov_eq hr.units) (ve_ix (hu_of hr) (vpn 1) ve_int (fun _ _ => rfl)) ve_str (nomark _))
        (vss_one (vs_retF (ve_lst (va_c ve_str va_nil))))
        vss_nil)
       (vss_cons (vs_if (vc_cmp (ov_eq hr.units) (ve_ix (hu_of hr) (vpn 1) ve_int (fun _ _ => rfl)) ve_str (nomark _))
        (vss_one (vs_retF (ve_callP G_words_of (hr.mono (by omega)) (takes_of (E := E) rfl rfl rfl rfl) (va_c (vnF 0) (va_c (ve_callP G_chosen (hr.mono (by omega)) (takes_of (E := E) rfl rfl rfl rfl) (va_c (vnF 1) (va_c (vnF 2) va_nil))) (va_c (vnF 2) va_nil))))))
        vss_nil)
       (vss_cons (vs_if (vc_cmp (ov_eq hr.units) (ve_ix (hu_of hr) (vpn 1) ve_int (fun _ _ => rfl)) ve_str (nomark _))
        (vss_one (vs_retF (ve_bin ov_add (ve_lst (va_c (ve_ix (hu_of hr) (vpn 2) ve_int (fun _ _ => rfl)) va_nil)) (ve_callP G_shown_parts (hr.mono (by omega)) (takes_of (E := E) rfl rfl rfl rfl) (va_c (vnF 0) (va_c (ve_slice (vpn 1) (vo_some ve_int) vo_none) (va_c (ve_slice (vpn 2) (vo_some ve_int) vo_none) va_nil)))))))
        vss_nil)
       (vss_cons (vs_if (vc_cmp (ov_eq hr.units) (ve_ix (hu_of hr) (vpn 1) ve_int (fun _ _ => rfl)) ve_str (nomark _))
        (vss_one (vs_retF (ve_callP G_shown_parts (hr.mono (by omega)) (takes_of (E := E) rfl rfl rfl rfl) (va_c (vnF 0) (va_c (ve_slice (vpn 1) (vo_some ve_int) vo_none) (va_c (vnF 2) va_nil))))))
        vss_nil)
       (vss_cons (vs_if (vc_cmp (ov_eq hr.units) (ve_ix (hu_of hr) (vpn 1) ve_int (fun _ _ => rfl)) ve_str (nomark _))
        (vss_cons (vs_set (i := 3) sc_words_of.nd rfl (by first | exact Or.inl rfl | exact Or.inr rfl) (ve_lst va_nil))
       (vss_cons (vs_for (passes_of rfl) rfl (vi_list (ve_callP G_names_for (hr.mono (by omega)) (takes_of (E := E) rfl rfl rfl rfl) (va_c (vnF 0) (va_c (ve_ix (hu_of hr) (vpn 1) ve_int (fun _ _ => rfl)) va_nil)))) (vg_name (i := 4) sc_words_of.nd rfl (by first | exact Or.inl rfl | exact Or.inr rfl))
        (vss_one (vs_set (i := 3) sc_words_of.nd rfl (by first | exact Or.inl rfl | exact Or.inr rfl) (ve_bin ov_add (ve_bin ov_add (vnF 3) (ve_lst (va_c (vnF 4) va_nil))) (ve_callP G_words_of (hr.mono (by omega)) (takes_of (E := E) rfl rfl rfl rfl) (va_c (vnF 0) (va_c (ve_ix (hu_of hr) (vpn 1) ve_int (fun _ _ => rfl)) (va_c (ve_ix (hu_of hr) (vpn 2) (vnF 4) (fun _ _ => rfl)) va_nil))))))))
       (vss_one (vs_retF (vnF 3)))))
        vss_nil)
       (vss_cons (vs_set (i := 3) sc_words_of.nd rfl (by first | exact Or.inl rfl | exact Or.inr rfl) (ve_lst va_nil))
       (vss_cons (vs_for (passes_of rfl) rfl (vi_list (vnF 2)) (vg_name (i := 5) sc_words_of.nd rfl (by first | exact Or.inl rfl | exact Or.inr rfl))
        (vss_one (vs_set (i := 3) sc_words_of.nd rfl (by first | exact Or.inl rfl | exact Or.inr rfl) (ve_bin ov_add (vnF 3) (ve_callP G_words_of (hr.mono (by omega)) (takes_of (E := E) rfl rfl rfl rfl) (va_c (vnF 0) (va_c (ve_ix (hu_of hr) (vpn 1) ve_int (fun _ _ => rfl)) (va_c (vnF 5) va_nil))))))))
       (vss_one (vs_retF (ve_bin ov_add (vnF 3) (ve_lst (va_c ve_str va_nil)))))))))))))
  case rd =>
    rintro ds st Q R ⟨nd, fm, thing, ws, rfl, hd, hW, hn, q⟩
    cases fm with
    | leaf f =>
      unfold fmD
      repeat k_extra "y"
      exact ⟨nd, f, thing, ws, rfl, hW, q⟩
    | none =>
      cases hW
      unfold fmD
      repeat k_extra "y"
      exact q
    | or fs =>
      cases hW with
      | or fs rest f thing ws w hl hs hw hc h =>
      rw [dep] at hd
      have hf := dep_mem (mem_head hc)
      have e0 : fmD (.or fs) = .tup (.str "or" :: fmDs fs) := rfl
      rw [e0]
      repeat k_extra "y"
      refine ⟨fs, rest, f, thing, w, rfl, hl, hs, hw, hc, ?_⟩
      repeat k_extra "y"
      exact ⟨nd, f, thing, ws, rfl, by omega, h, hn, q⟩
    | tuple t fs =>
      cases hW with
      | tuple t fs things ws h =>
      rw [dep] at hd
      simp only [List.length_cons] at hn
      unfold fmD
      repeat k_extra "y"
      refine ⟨nd, fs, things, ws, rfl, by omega, h, by omega, ?_⟩
      repeat k_extra "y"
      exact q
    | pair fs =>
      cases hW with
      | pair fs things ws h =>
      rw [dep] at hd
      unfold fmD
      repeat k_extra "y"
      exact ⟨nd, fs, things, ws, rfl, by omega, h, by omega, q⟩
    | table wh f =>
      cases hW with
      | table n0 ok wh f names ks ws e hnm h =>
      subst e
      rw [dep] at hd
      unfold fmD
      repeat k_extra "y"
      refine ⟨n0, wh, names, rfl, ok, hnm, ?_⟩
      repeat k_extra "y"
      refine for_ind (fun rest s => ∃ rs us vs x y, rest = sw rs ∧ Wt n0.d f ks rs vs ∧ ws = us ++ vs ∧ s = ⟨[.fz n0.d, .fz (.tup [.str "table", .str wh, fmD f]), .fz (.dic ks), .ow (.lst (sw us)), x, y], st⟩) ⟨names, [], ws, _, _, rfl, h, rfl, rfl⟩ ?_ ?_
      · rintro s ⟨rs, us, vs, x, y, e1, hw, rfl, rfl⟩
        refine ⟨trivial, ?_⟩
        cases hw with
        | nil =>
          repeat k_extra "y"
          rw [List.append_nil] at q
          exact q
        | cons hv h r => cases e1
      · rintro d ds s ih ⟨rs, us, vs, x, y, e1, hw, rfl, rfl⟩
        cases hw with
        | nil => cases e1
        | @cons _ _ p d ws ps vs hv h9 r =>
        cases e1
        simp only [List.length_append, List.length_cons] at hn
        refine ⟨trivial, ?_⟩
        repeat k_extra "y"
        refine ⟨_, f, d, ws, rfl, by omega, h9, by omega, ?_⟩
        repeat k_extra "y"
        refine' ih _ ⟨ps, us ++ (p :: ws), vs, _, _, rfl, r, by simp, ?e⟩
        case e =>
          simp only [sw, List.map_append, List.append_assoc]
          rfl
    | list f =>
      cases hW with
      | list f things ws h =>
      rw [dep] at hd
      simp only [List.length_append] at hn
      unfold fmD
      repeat k_extra "y"
      refine for_ind (fun rest s => ∃ us vs x y, Wl nd f rest vs ∧ ws = us ++ vs ∧ s = ⟨[.fz nd, .fz (.tup [.str "list", fmD f]), .fz (.lst things), .ow (.lst (sw us)), x, y], st⟩) ⟨[], ws, _, _, h, rfl, rfl⟩ ?_ ?_
      · rintro s ⟨us, vs, x, y, hw, rfl, rfl⟩
        refine ⟨trivial, ?_⟩
        cases hw with
        | nil =>
          simp only [List.append_nil] at q hn
          repeat k_extra "y"
          simp only [sw, List.map_append] at q
          exact q
      · rintro d ds s ih ⟨us, vs, x, y, hw, rfl, rfl⟩
        cases hw with
        | @cons _ d ws ds vs h9 r =>
        simp only [List.length_append] at hn
        refine ⟨trivial, ?_⟩
        repeat k_extra "y"
        refine ⟨nd, f, d, ws, rfl, by omega, h9, by omega, ?_⟩
        repeat k_extra "y"
        refine' ih _ ⟨us ++ ws, vs, _, _, r, by simp, ?e⟩
        case e =>
          simp only [sw, List.map_append, List.append_assoc]
          rfl
end
end MK



namespace MK
open PySem L2 VL

local macro_rules | `(tactic| k_extra "sd") => `(tactic| first
  | assumption
  | exact Nat.le_of_ble_eq_true rfl
  | ((try simp only [sz16, List.length_append, List.length_cons, List.length_nil, List.length_map, List.length_replicate]); omega)
  | decide
  | decide +kernel)
local macro_rules | `(tactic| k_extra "sd2") => `(tactic| first
  | trivial
  | ((with_reducible show look _ _ _); first | (refine x_lkV ?_; trivial) | (refine' x_lkF ?e ?k; (case e => rfl); (case k => trivial)) | (refine' x_lkO ?e ?k; (case e => rfl); (case k => trivial)))
  | k_extra "sd")
local macro_rules | `(tactic| k_extra "fc") => `(tactic| fail)
local macro_rules | `(tactic| k_extra "yd") => `(tactic| first
  | ((with_reducible show inD _ _ _); first | (refine' y_inT ?f ?g ?k; (case f => rfl); (case g => rfl)) | (refine' y_inL ?f ?g ?k; (case f => rfl); (case g => rfl)) | refine y_inS ?_ | (refine' y_inD ?e ?k; (case e => rfl)))
  | ((with_reducible show ixD _ _ _); first | (refine' y_ixT ?e ?k; (case e => rfl)) | (refine' y_ixL ?e ?k; (case e => rfl)) | (refine' y_ixT ?e ?k; (case e => assumption)) | (refine' y_ixL ?e ?k; (case e => assumption)) | (refine' y_ixT ?e ?k; (case e => exact atI_0)) | (refine' y_ixT ?e ?k; (case e => exact atI_1)) | (refine' y_ixT ?e ?k; (case e => exact atI_2)) | (refine' y_ixL ?e ?k; (case e => exact atI_0)) | (refine' y_ixD ?e ?e2 ?k; (case e => rfl); (case e2 => assumption)))
  | ((with_reducible show slD _ _ _ _); first | refine y_slL ?_ | refine sl_1 ?_ | refine sl_2 ?_ | (refine' y_slT ?n ?k; (case n => decide)) | (refine' y_slS ?l ?k; (case l => k_extra "sd")))
  | ((with_reducible show eqD _ _ _); refine' y_eq ?e ?k; (case e => rfl))
  | ((with_reducible show neD _ _ _); refine' y_ne ?e ?k; (case e => rfl))
  | ((with_reducible show strD _ _); first | refine y_strS ?_ | (refine' y_strI ?l ?k; (case l => k_extra "sd")))
  | ((with_reducible show allD _ _ _); refine y_allT ?_)
  | ((with_reducible show allD _ _ _); refine' y_all ?e ?k; (case e => first | assumption | rfl))
  | ((with_reducible show setD _ _ _ _); first | (refine' y_setL ?e ?k; (case e => rfl)) | (refine' y_setD ?e ?l ?k; (case e => rfl); (case l => k_extra "sd"))))
local macro_rules | `(tactic| k_extra "y") => `(tactic| first
  | ((with_reducible show And _ _); refine' And.intro ?l ?k; (case l => k_extra "sd2"))
  | ((with_reducible show ite _ _ _); first | refine iT (by first | rfl | decide) ?_ | refine iF (by first | decide) ?_ | (refine' iT ?h ?k; (case h => (simp; done))) | (refine' iF ?h ?k; (case h => (simp; done))) | fail)
  | ((with_reducible show br _ _ _); first | refine brT (by first | rfl | decide) ?_ | refine brF (by first | decide) ?_ | (refine' brT ?h ?k; (case h => (simp; done))) | (refine' brF ?h ?k; (case h => (simp; done))))
  | k_extra "yd"
  | k_extra "fc"
  | (fail_if_success (with_reducible show forV _ _ _ _ _ _ _)
     fail_if_success (with_reducible show compV _ _ _ _ _ _ _ _ _)
     fail_if_success (with_reducible show dcompV _ _ _ _ _ _ _ _ _ _)
     fail_if_success (with_reducible show Exists _)
     fail_if_success (with_reducible show And _ _)
     fail_if_success (refine' dupl ?i ?x; (case i => (conv => lhs; whnf)))
     conv => whnf))

section
variable {P : Program} {w : World} {K : PySem.W.Frag} {mg : Str → Option Value} {base : Heap} {f aFORMS : Addr} {fd : FuncData}
def DrB (b : Bd) : Prop := ∃ (ns : List Int) (pos d2 d3 : Int), b = .lst [.lst (ns.map Dv.int), .int pos, .int d2, .int d3] ∧ 0 ≤ pos ∧ 0 ≤ d2 ∧ 0 ≤ d3 ∧ d3 < 2 ^ 31
def DrC (cl : Cl) : Prop := ∃ b, cl = .bd b ∧ DrB b
def F_draws : VSp := fun ds st Q R => ∃ ns : List Int, ds = [.scr ns] ∧ st = [] ∧ ∀ cl, DrC cl → Q (.fz (.obj 0)) [cl]
theorem ok_draws (F : FnP K "_law_draws" s__law_draws f fd) (m : mg "_law_draws" = some (.ref f)) (b : Binds K fd ["script"] []) (T : Blt mg) : VD P w K mg base 1 "_law_draws" ["script"] F_draws := by
  refine' mk_v F m b sc__law_draws ?der ?hl ?rd
  case hl => rintro ds st Q R ⟨_, rfl, _⟩; rfl
  case der => exact
    fun cdv A outer s H E hr =>
      (vss_one (vs_retF (ve_box (ve_lst (va_c (ve_bt (bf_list rfl) (vpn 0) (by rfl) T.list (by decide +kernel)) (va_c ve_int (va_c ve_int (va_c ve_int va_nil))))))))
  case rd =>
    rintro ds st Q R ⟨ns, rfl, rfl, q⟩
    repeat k_extra "y"
    exact q _ ⟨_, rfl, ns, 0, 0, 1, rfl, by omega, by omega, by omega, by omega⟩
theorem log31 {i : Int} (h : 0 ≤ i) (h2 : i < 2 ^ 31) : i.natAbs.log2 < 31 := by
  by_cases z : i.natAbs = 0
  · rw [z]; decide
  · exact (Nat.log2_lt z).mpr (by omega)
theorem mul_dr {i : Int} (j : Int) (hj : j.natAbs.log2 < 900) (h : 0 ≤ i) (h2 : i < 2 ^ 31) : MulOk i j := .inr (by
  have := log31 h h2
  show _ + _ < _
  omega)
def F_draw : VSp := fun ds st Q R => ∃ (cl : Cl) (lim : Int), ds = [.obj 0, .int lim] ∧ st = [cl] ∧ DrC cl ∧ 0 < lim ∧ lim ≤ 10 ^ 14 ∧ ∀ v cl', 0 ≤ v → v < lim → DrC cl' → Q (.fz (.int v)) [cl']
theorem atI_ints {ns : List Int} {i : Int} (h : 0 ≤ i) (h2 : i < (ns.map Dv.int).length) : ∃ c, atI (ns.map Dv.int) i = some (.int c) := by
  unfold atI ixN
  rw [if_pos h, if_pos h2]
  rw [List.length_map] at h2
  exact ⟨ns[i.toNat]'(by omega), by simp⟩
theorem dr_a (x : Int) : 0 ≤ x % 2147483647 := Int.emod_nonneg _ (by decide)
theorem dr_b (x : Int) : x % 2147483647 < 2 ^ 31 := by have := Int.emod_lt_of_pos x (show (0 : Int) < 2147483647 by decide); omega
theorem dr_c (x : Int) : 0 ≤ x % 2147483629 := Int.emod_nonneg _ (by decide)
theorem dr_d (x : Int) : x % 2147483629 < 2 ^ 31 := by have := Int.emod_lt_of_pos x (show (0 : Int) < 2147483629 by decide); omega
theorem cdiv_of {i j : Int} (h : 0 < j) (h2 : j.natAbs.log2 < 9000) : CDivW i j := ⟨h, h2⟩
theorem pow18 : CPow 10 18 := ⟨by decide, by decide, by decide⟩
local macro_rules | `(tactic| k_extra "sd") => `(tactic| first
  | exact pow18
  | exact mul_dr _ (by decide) (by assumption) (by assumption)
  | exact mul_dr _ (by decide) (dr_a _) (dr_b _)
  | exact cdiv_of (by assumption) (by assumption)
  | exact cdiv_of (by decide) (by decide))
theorem ok_draw (F : FnP K "_law_draw" s__law_draw f fd) (m : mg "_law_draw" = some (.ref f)) (b : Binds K fd ["draws", "limit"] []) (T : Blt mg) : VD P w K mg base 1 "_law_draw" ["draws", "limit"] F_draw := by
  refine' mk_v F m b sc__law_draw ?der ?hl ?rd
  case hl => rintro ds st Q R ⟨_, _, rfl, _⟩; rfl
  case der => exact
    fun cdv A outer s H E hr =>
      (vss_cons (vs_if (VW.vc (vw_and (vc_cmp (ov_eq hr.units) (ve_ix (hu_of hr) (vpn 0) ve_int (fun _ _ => rfl)) ve_int (nomark _)) (vw_and1 (vc_cmp ov_lt (ve_ix (hu_of hr) (vpn 0) ve_int (fun _ _ => rfl)) (ve_bf bf_len (vp_val (ve_ix (hu_of hr) (vpn 0) ve_int (fun _ _ => rfl))) (by rfl) T.len (by decide +kernel)) (nomark _)))))
        (vss_cons (vs_set (i := 2) sc__law_draw.nd rfl (by first | exact Or.inl rfl | exact Or.inr rfl) (ve_ix (hu_of hr) (vp_val (ve_ix (hu_of hr) (vpn 0) ve_int (fun _ _ => rfl))) (ve_ix (hu_of hr) (vpn 0) ve_int (fun _ _ => rfl)) (fun _ _ => rfl)))
       (vss_cons (vs_ixF (hu_of hr) (ve_bin ov_add (ve_ix (hu_of hr) (vpn 0) ve_int (fun _ _ => rfl)) ve_int) (vpn 0) ve_int)
       (vss_cons (vs_if (vc_cmp ov_ge (vnF 2) (ve_bin ov_pow ve_int ve_int) (nomark _))
        (vss_one (vs_ixF (hu_of hr) (vnF 2) (vpn 0) ve_int))
        vss_nil)
       (vss_one (vs_ixF (hu_of hr) (ve_bin ov_mod (ve_bt bf_int (vp_val (ve_bin ov_add (ve_bin ov_add (ve_bin ov_mul (ve_ix (hu_of hr) (vpn 0) ve_int (fun _ _ => rfl)) ve_int) (vnF 2)) ve_int)) (by rfl) T.int (by decide +kernel)) ve_int) (vpn 0) ve_int)))))
        vss_nil)
       (vss_cons (vs_if (vc_cmp ov_gt (ve_ix (hu_of hr) (vpn 0) ve_int (fun _ _ => rfl)) ve_int (nomark _))
        (vss_cons (vs_set (i := 3) sc__law_draw.nd rfl (by first | exact Or.inl rfl | exact Or.inr rfl) (ve_bin ov_mod (ve_bt bf_int (vp_val (ve_ix (hu_of hr) (vpn 0) ve_int (fun _ _ => rfl))) (by rfl) T.int (by decide +kernel)) (vnF 1)))
       (vss_cons (vs_ixF (hu_of hr) (ve_bin ov_fdiv (ve_ix (hu_of hr) (vpn 0) ve_int (fun _ _ => rfl)) (vnF 1)) (vpn 0) ve_int)
       (vss_one (vs_retF (vnF 3)))))
        vss_nil)
       (vss_cons (vs_ixF (hu_of hr) (ve_bin ov_mod (ve_bt bf_int (vp_val (ve_bin ov_add (ve_bin ov_mul (ve_ix (hu_of hr) (vpn 0) ve_int (fun _ _ => rfl)) ve_int) ve_int)) (by rfl) T.int (by decide +kernel)) ve_int) (vpn 0) ve_int)
       (vss_one (vs_retF (ve_bin ov_mod (ve_bt bf_int (vp_val (ve_bin ov_fdiv (ve_ix (hu_of hr) (vpn 0) ve_int (fun _ _ => rfl)) ve_int)) (by rfl) T.int (by decide +kernel)) (vnF 1)))))))
  case rd =>
    rintro ds st Q R ⟨cl, lim, rfl, rfl, ⟨b, rfl, ns, pos, d2, d3, rfl, p0, p2, p3, p4⟩, l0, l1, q⟩
    have ll : lim.natAbs.log2 < 9000 := by
      have := (Nat.log2_lt (n := lim.natAbs) (k := 60) (by omega)).mpr (by omega)
      omega
    have e1 : (10 : Int) ^ (18 : Int).toNat = 1000000000000000000 := by decide
    have fin : ∀ (v pos d2 d3 : Int), 0 ≤ v → v < lim → 0 ≤ pos → 0 ≤ d2 → 0 ≤ d3 → d3 < 2 ^ 31 → Q (.fz (.int v)) [.bd (.lst [.lst (ns.map Dv.int), .int pos, .int d2, .int d3])] := fun v pos d2 d3 a b c d e g => q v _ a b ⟨_, rfl, ns, pos, d2, d3, rfl, c, d, e, g⟩
    have md : ∀ x : Int, 0 ≤ x % lim ∧ x % lim < lim := fun x => ⟨Int.emod_nonneg _ (by omega), Int.emod_lt_of_pos x l0⟩
    have dv : ∀ x : Int, 0 ≤ x → 0 ≤ x / lim := fun x h => Int.ediv_nonneg h (by omega)
    repeat k_extra "y"
    refine ib (c := d2 = 0) rfl (fun h => ?_) (fun h => ?_)
    · repeat k_extra "y"
      refine ib rfl (fun h2 => ?_) (fun h2 => ?_)
      · obtain ⟨c, hc⟩ := atI_ints p0 h2
        repeat k_extra "y"
        refine ib rfl (fun h3 => ?_) (fun h3 => ?_)
        · rw [e1] at h3
          repeat k_extra "y"
          refine ib rfl (fun h4 => ?_) (fun h4 => ?_)
          · repeat k_extra "y"
            exact fin _ _ _ _ (md _).1 (md _).2 (by omega) (dv _ (by omega)) (dr_a _) (dr_b _)
          · exact absurd (show c > 0 by omega) h4
        · repeat k_extra "y"
          refine ib rfl (fun h4 => ?_) (fun h4 => ?_)
          · exact absurd h4 (by omega)
          · repeat k_extra "y"
            exact fin _ _ _ _ (md _).1 (md _).2 (by omega) (by omega) (dr_c _) (dr_d _)
      · repeat k_extra "y"
        refine ib rfl (fun h4 => ?_) (fun h4 => ?_)
        · exact absurd h4 (by omega)
        · repeat k_extra "y"
          exact fin _ _ _ _ (md _).1 (md _).2 (by omega) (by omega) (dr_c _) (dr_d _)
    · repeat k_extra "y"
      refine ib rfl (fun h4 => ?_) (fun h4 => ?_)
      · repeat k_extra "y"
        exact fin _ _ _ _ (md _).1 (md _).2 (by omega) (dv _ (by omega)) (by omega) (by omega)
      · exact absurd (show d2 > 0 by omega) h4
def F_gcd : VSp := fun ds st Q R => ∃ a b : Int, ds = [.int a, .int b] ∧ ∀ r : Int, Q (.fz (.int r)) st
theorem ok_gcd (F : FnP K "_law_gcd" s__law_gcd f fd) (m : mg "_law_gcd" = some (.ref f)) (b : Binds K fd ["a", "b"] []) (T : Blt mg) : VD P w K mg base 1 "_law_gcd" ["a", "b"] F_gcd := by
  refine' mk_v F m b sc__law_gcd ?der ?hl ?rd
  case hl => rintro ds st Q R ⟨_, _, rfl, _⟩; rfl
  case der => exact
    fun cdv A outer s H E hr =>
      (vss_cons (vs_while (passes_of rfl) (vc_cmp ov_gt (vnF 1) ve_int (nomark _))
        (vss_one (vs_par (i := 0) (j := 1) rfl sc__law_gcd.nd rfl rfl (by decide) rfl rfl (va_c (vnF 1) (va_c (ve_bin ov_mod (ve_bt bf_int (vpn 0) (by rfl) T.int (by decide +kernel)) (vnF 1)) va_nil)) (by rfl))))
       (vss_one (vs_retF (vnF 0))))
  case rd =>
    rintro ds st Q R ⟨a, c, rfl, q⟩
    repeat k_extra "y"
    refine ⟨fun m s => ∃ a c : Int, m = c.toNat ∧ s = ⟨[.fz (.int a), .fz (.int c)], st⟩, ⟨_, a, c, rfl, rfl⟩, ?_⟩
    rintro m s ⟨a, c, rfl, rfl⟩
    repeat k_extra "y"
    refine ib rfl (fun h => ?_) (fun h => ?_)
    · repeat k_extra "y"
      have h1 := Int.emod_nonneg a (show c ≠ 0 by omega)
      have h2 := Int.emod_lt_of_pos a h
      exact ⟨_, by omega, _, _, rfl, rfl⟩
    · repeat k_extra "y"
      exact q _
end
end MK



namespace MK
open PySem L2 VL

local macro_rules | `(tactic| k_extra "sd") => `(tactic| first
  | assumption
  | exact Nat.le_of_ble_eq_true rfl
  | ((try simp only [sz16, List.length_append, List.length_cons, List.length_nil, List.length_map, List.length_replicate]); omega)
  | decide
  | decide +kernel)
local macro_rules | `(tactic| k_extra "sd2") => `(tactic| first
  | trivial
  | ((with_reducible show look _ _ _); first | (refine x_lkV ?_; trivial) | (refine' x_lkF ?e ?k; (case e => rfl); (case k => trivial)) | (refine' x_lkO ?e ?k; (case e => rfl); (case k => trivial)))
  | k_extra "sd")
local macro_rules | `(tactic| k_extra "fc") => `(tactic| fail)
local macro_rules | `(tactic| k_extra "yd") => `(tactic| first
  | ((with_reducible show inD _ _ _); first | (refine' y_inT ?f ?g ?k; (case f => rfl); (case g => rfl)) | (refine' y_inL ?f ?g ?k; (case f => rfl); (case g => rfl)) | refine y_inS ?_ | (refine' y_inD ?e ?k; (case e => rfl)))
  | ((with_reducible show ixD _ _ _); first | (refine' y_ixT ?e ?k; (case e => rfl)) | (refine' y_ixL ?e ?k; (case e => rfl)) | (refine' y_ixT ?e ?k; (case e => assumption)) | (refine' y_ixL ?e ?k; (case e => assumption)) | (refine' y_ixT ?e ?k; (case e => exact atI_0)) | (refine' y_ixT ?e ?k; (case e => exact atI_1)) | (refine' y_ixT ?e ?k; (case e => exact atI_2)) | (refine' y_ixL ?e ?k; (case e => exact atI_0)) | (refine' y_ixD ?e ?e2 ?k; (case e => rfl); (case e2 => assumption)))
  | ((with_reducible show slD _ _ _ _); first | refine y_slL ?_ | refine sl_1 ?_ | refine sl_2 ?_ | (refine' y_slT ?n ?k; (case n => decide)) | (refine' y_slS ?l ?k; (case l => k_extra "sd")))
  | ((with_reducible show eqD _ _ _); refine' y_eq ?e ?k; (case e => rfl))
  | ((with_reducible show neD _ _ _); refine' y_ne ?e ?k; (case e => rfl))
  | ((with_reducible show strD _ _); first | refine y_strS ?_ | (refine' y_strI ?l ?k; (case l => k_extra "sd")))
  | ((with_reducible show allD _ _ _); refine y_allT ?_)
  | ((with_reducible show allD _ _ _); refine' y_all ?e ?k; (case e => first | assumption | rfl))
  | ((with_reducible show setD _ _ _ _); first | (refine' y_setL ?e ?k; (case e => rfl)) | (refine' y_setD ?e ?l ?k; (case e => rfl); (case l => k_extra "sd"))))
local macro_rules | `(tactic| k_extra "y") => `(tactic| first
  | ((with_reducible show And _ _); refine' And.intro ?l ?k; (case l => k_extra "sd2"))
  | ((with_reducible show ite _ _ _); first | refine iT (by first | rfl | decide) ?_ | refine iF (by first | decide) ?_ | (refine' iT ?h ?k; (case h => (simp; done))) | (refine' iF ?h ?k; (case h => (simp; done))) | fail)
  | ((with_reducible show br _ _ _); first | refine brT (by first | rfl | decide) ?_ | refine brF (by first | decide) ?_ | (refine' brT ?h ?k; (case h => (simp; done))) | (refine' brF ?h ?k; (case h => (simp; done))))
  | k_extra "yd"
  | k_extra "fc"
  | (fail_if_success (with_reducible show forV _ _ _ _ _ _ _)
     fail_if_success (with_reducible show compV _ _ _ _ _ _ _ _ _)
     fail_if_success (with_reducible show dcompV _ _ _ _ _ _ _ _ _ _)
     fail_if_success (with_reducible show Exists _)
     fail_if_success (with_reducible show And _ _)
     fail_if_success (refine' dupl ?i ?x; (case i => (conv => lhs; whnf)))
     conv => whnf))

def Sm : Nat → Dv → Prop
  | 0, _ => False
  | _ + 1, .non => True
  | _ + 1, .bl _ => True
  | _ + 1, .int _ => True
  | _ + 1, .str _ => True
  | n + 1, .lst ds => ds.length ≤ 1000 ∧ ∀ x ∈ ds, Sm n x
  | n + 1, .tup ds => ds.length ≤ 1000 ∧ ∀ x ∈ ds, Sm n x
  | n + 1, .dic ks => ks.length ≤ 1000 ∧ (ks.map (·.1)).Nodup ∧ ∀ q ∈ ks, Sm n q.2
  | _ + 1, _ => False
theorem Sm.no {n : Nat} {d : Dv} (h : Sm n d) (st : List Cl) : rslv st d = d := by
  cases n with
  | zero => exact h.elim
  | succ n => cases d <;> first | rfl | exact h.elim
def cpS : Dv → Sl
  | .lst ds => .ow (.lst ds)
  | d => .fz d
theorem cpS_d (d : Dv) : (cpS d).d = d := by cases d <;> rfl
section
variable {P : Program} {w : World} {K : PySem.W.Frag} {mg : Str → Option Value} {base : Heap} {f aFORMS : Addr} {fd : FuncData}
def F_same (n : Nat) : VSp := fun ds st Q R => ∃ d, ds = [d, d] ∧ Sm n d ∧ Q (.fz (.bl true)) st
theorem ok_same0 (F : FnP K "_law_same" s__law_same f fd) (m : mg "_law_same" = some (.ref f)) (b : Binds K fd ["x", "due"] []) : VD P w K mg base 1 "_law_same" ["x", "due"] (F_same 0) :=
  mk_v0 F m b sc__law_same fun ds st Q R ⟨_, _, h, _⟩ => h
theorem ok_same {n : Nat} (F : FnP K "_law_same" s__law_same f fd) (m : mg "_law_same" = some (.ref f)) (b : Binds K fd ["x", "due"] []) (T : Blt mg) (G__law_same : VD P w K mg base (n + 1) "_law_same" ["x", "due"] (F_same n)) : VD P w K mg base (n + 2) "_law_same" ["x", "due"] (F_same (n + 1)) := by
  refine' mk_v F m b sc__law_same ?der ?hl ?rd
  case hl => rintro ds st Q R ⟨_, rfl, _⟩; rfl
  case der => exact
    fun cdv A outer s H E hr =>
      (vss_cons (vs_if (vc_isN (vnF 1))
        (vss_one (vs_retF (ve_isN (vnF 0))))
        vss_nil)
       (vss_cons (vs_if (vc_val (ve_bn bn_isi (va_c (vnF 1) (va_c (ve_bty (T := "bool") (by rfl) T.bool (by decide +kernel)) va_nil)) (by rfl) T.isinstance (by decide +kernel)))
        (vss_one (vs_retF (ve_and (ve_bn bn_isi (va_c (vnF 0) (va_c (ve_bty (T := "bool") (by rfl) T.bool (by decide +kernel)) va_nil)) (by rfl) T.isinstance (by decide +kernel)) (ve_one (ve_cmp (ov_eq hr.units) (vnF 0) (vnF 1) (nomark _))))))
        vss_nil)
       (vss_cons (vs_if (vc_val (ve_bn bn_isi (va_c (vnF 1) (va_c (ve_bty (T := "int") (by rfl) T.int (by decide +kernel)) va_nil)) (by rfl) T.isinstance (by decide +kernel)))
        (vss_one (vs_retF (ve_and (ve_bn bn_isi (va_c (vnF 0) (va_c (ve_bty (T := "int") (by rfl) T.int (by decide +kernel)) va_nil)) (by rfl) T.isinstance (by decide +kernel)) (ve_and (ve_not (ve_bn bn_isi (va_c (vnF 0) (va_c (ve_bty (T := "bool") (by rfl) T.bool (by decide +kernel)) va_nil)) (by rfl) T.isinstance (by decide +kernel))) (ve_one (ve_cmp (ov_eq hr.units) (vnF 0) (vnF 1) (nomark _)))))))
        vss_nil)
       (vss_cons (vs_if (vc_val (ve_bn bn_isi (va_c (vnF 1) (va_c (ve_bty (T := "str") (by rfl) T.str (by decide +kernel)) va_nil)) (by rfl) T.isinstance (by decide +kernel)))
        (vss_one (vs_retF (ve_and (ve_bn bn_isi (va_c (vnF 0) (va_c (ve_bty (T := "str") (by rfl) T.str (by decide +kernel)) va_nil)) (by rfl) T.isinstance (by decide +kernel)) (ve_one (ve_cmp (ov_eq hr.units) (vnF 0) (vnF 1) (nomark _))))))
        vss_nil)
       (vss_cons (vs_if (vc_val (ve_bn bn_isi (va_c (vnF 1) (va_c (ve_bty (T := "dict") (by rfl) T.dict (by decide +kernel)) va_nil)) (by rfl) T.isinstance (by decide +kernel)))
        (vss_cons (vs_if (VW.vc (vw_or (vc_not (vc_val (ve_bn bn_isi (va_c (vnF 0) (va_c (ve_bty (T := "dict") (by rfl) T.dict (by decide +kernel)) va_nil)) (by rfl) T.isinstance (by decide +kernel)))) (vw_or (vc_cmp (ov_ne hr.units) (ve_bf bf_len (vpn 0) (by rfl) T.len (by decide +kernel)) (ve_bf bf_len (vpn 1) (by rfl) T.len (by decide +kernel)) (nomark _)) (vw_or1 (vc_not (vc_val (ve_bf (bf_all rfl) (vp_val (ve_lcK (i := 1) (own := [("key", 2)]) (.nm 2) rfl sc__law_same.nd rfl (by first | exact Or.inl rfl | exact Or.inr (Or.inl rfl) | exact Or.inr (Or.inr rfl)) (blkOk_by (own := [("key", 2)]) (N := ["x", "due", "key", "right", "at"]) (sc := (defScope s__law_same)) (by decide +kernel)) (fun _ _ _ _ _ => (pg_name (i := 2) sc__law_same.nd rfl (by first | exact Or.inl rfl | exact Or.inr rfl))) (fun _ _ _ _ _ => vts_nil) (fun _ _ _ _ _ => (ve_in (hu_of hr) (vnF 2) (vpn 0) (by rfl))))) (by rfl) T.all (by decide +kernel))))))))
        (vss_one (vs_retF ve_bl))
        vss_nil)
       (vss_one (vs_retF (ve_bf (bf_all rfl) (vp_val (ve_lcK (i := 1) (own := [("key", 2)]) (.nm 2) rfl sc__law_same.nd rfl (by first | exact Or.inl rfl | exact Or.inr (Or.inl rfl) | exact Or.inr (Or.inr rfl)) (blkOk_by (own := [("key", 2)]) (N := ["x", "due", "key", "right", "at"]) (sc := (defScope s__law_same)) (by decide +kernel)) (fun _ _ _ _ _ => (pg_name (i := 2) sc__law_same.nd rfl (by first | exact Or.inl rfl | exact Or.inr rfl))) (fun _ _ _ _ _ => vts_nil) (fun _ _ _ _ _ => (ve_callP G__law_same (hr.mono (by omega)) takes0 (va_c (ve_ix (hu_of hr) (vpn 0) (vnF 2) (fun _ _ => rfl)) (va_c (ve_ix (hu_of hr) (vpn 1) (vnF 2) (fun _ _ => rfl)) va_nil)))))) (by rfl) T.all (by decide +kernel)))))
        vss_nil)
       (vss_cons (vs_if (vc_val (ve_bn bn_isi (va_c (vnF 1) (va_c (ve_bty (T := "list") (by rfl) T.list (by decide +kernel)) va_nil)) (by rfl) T.isinstance (by decide +kernel)))
        (vss_one (vs_set (i := 3) sc__law_same.nd rfl (by first | exact Or.inl rfl | exact Or.inr rfl) (ve_bn bn_isi (va_c (vnF 0) (va_c (ve_bty (T := "list") (by rfl) T.list (by decide +kernel)) va_nil)) (by rfl) T.isinstance (by decide +kernel))))
        (vss_one (vs_set (i := 3) sc__law_same.nd rfl (by first | exact Or.inl rfl | exact Or.inr rfl) (ve_bn bn_isi (va_c (vnF 0) (va_c (ve_bty (T := "tuple") (by rfl) T.tuple (by decide +kernel)) va_nil)) (by rfl) T.isinstance (by decide +kernel)))))
       (vss_one (vs_retF (ve_and (vnF 3) (ve_and (ve_cmp (ov_eq hr.units) (ve_bf bf_len (vpn 0) (by rfl) T.len (by decide +kernel)) (ve_bf bf_len (vpn 1) (by rfl) T.len (by decide +kernel)) (nomark _)) (ve_one (ve_bf (bf_all rfl) (vp_val (ve_lc (own := [("at", 4)]) (.nm 4) rfl sc__law_same.nd (vi_range1 (by rfl) T.range (va_c (ve_bf bf_len (vpn 1) (by rfl) T.len (by decide +kernel)) va_nil)) (blkOk_by (own := [("at", 4)]) (N := ["x", "due", "key", "right", "at"]) (sc := (defScope s__law_same)) (by decide +kernel)) (fun _ _ _ _ _ => (pg_name (i := 4) sc__law_same.nd rfl (by first | exact Or.inl rfl | exact Or.inr rfl))) (fun _ _ _ _ _ => vts_nil) (fun _ _ _ _ _ => (ve_callP G__law_same (hr.mono (by omega)) takes0 (va_c (ve_ix (hu_of hr) (vpn 0) (vnF 4) (fun _ _ => rfl)) (va_c (ve_ix (hu_of hr) (vpn 1) (vnF 4) (fun _ _ => rfl)) va_nil)))))) (by rfl) T.all (by decide +kernel)))))))))))))
  case rd =>
    rintro ds st Q R ⟨d, rfl, h, q⟩
    cases d with
    | non =>
      repeat k_extra "y"
      exact q
    | bl z =>
      repeat k_extra "y"
      rw [decide_eq_true rfl]
      exact q
    | int z =>
      repeat k_extra "y"
      rw [decide_eq_true rfl]
      exact q
    | str z =>
      repeat k_extra "y"
      rw [decide_eq_true rfl]
      exact q
    | lst ds =>
      obtain ⟨hl, hs⟩ := h
      repeat k_extra "y"
      refine' comp_ind (fun rest acc s => ∃ (k m : Nat) (a : Sl), rest = rangeD (k : Int) m ∧ k + m = ds.length ∧ acc = List.replicate k (.bl true) ∧ s = ⟨[.fz (.lst ds), .fz (.lst ds), .un, a, .un], st⟩) ⟨0, ds.length, _, rfl, by omega, rfl, rfl⟩ ?hn1 ?hc1
      case hn1 =>
        rintro acc s ⟨k, m, a, e1, e2, rfl, rfl⟩
        refine ⟨trivial, ?_⟩
        repeat k_extra "y"
        exact q
      case hc1 =>
        rintro d rest acc s ih ⟨k, m, a, e1, e2, rfl, rfl⟩
        cases m with
        | zero => cases e1
        | succ m =>
        rw [rangeD_succ] at e1
        cases e1
        have hk : k < ds.length := by omega
        have hx : ds[k]? = some ds[k] := by simp [hk]
        have hx2 := atI_nat hx
        refine ⟨trivial, ?_⟩
        repeat k_extra "y"
        refine ⟨_, rfl, hs _ (List.getElem_mem hk), ?_⟩
        repeat k_extra "y"
        exact ih _ _ ⟨k + 1, m, _, rfl, by omega, by rw [List.replicate_succ'] <;> rfl, rfl⟩
    | tup ds =>
      obtain ⟨hl, hs⟩ := h
      repeat k_extra "y"
      refine' comp_ind (fun rest acc s => ∃ (k m : Nat) (a : Sl), rest = rangeD (k : Int) m ∧ k + m = ds.length ∧ acc = List.replicate k (.bl true) ∧ s = ⟨[.fz (.tup ds), .fz (.tup ds), .un, a, .un], st⟩) ⟨0, ds.length, _, rfl, by omega, rfl, rfl⟩ ?hn2 ?hc2
      case hn2 =>
        rintro acc s ⟨k, m, a, e1, e2, rfl, rfl⟩
        refine ⟨trivial, ?_⟩
        repeat k_extra "y"
        exact q
      case hc2 =>
        rintro d rest acc s ih ⟨k, m, a, e1, e2, rfl, rfl⟩
        cases m with
        | zero => cases e1
        | succ m =>
        rw [rangeD_succ] at e1
        cases e1
        have hk : k < ds.length := by omega
        have hx : ds[k]? = some ds[k] := by simp [hk]
        have hx2 := atI_nat hx
        refine ⟨trivial, ?_⟩
        repeat k_extra "y"
        refine ⟨_, rfl, hs _ (List.getElem_mem hk), ?_⟩
        repeat k_extra "y"
        exact ih _ _ ⟨k + 1, m, _, rfl, by omega, by rw [List.replicate_succ'] <;> rfl, rfl⟩
    | dic ks =>
      obtain ⟨hl, hn, hs⟩ := h
      repeat k_extra "y"
      refine' comp_ind (fun rest acc s => ∃ (k : Nat) (rs qs : List (Key × Dv)), rest = keysD rs ∧ ks = qs ++ rs ∧ acc = List.replicate k (.bl true) ∧ k + rs.length ≤ 1000 ∧ s = ⟨[.fz (.dic ks), .fz (.dic ks), .un, .un, .un], st⟩) ⟨0, ks, [], rfl, rfl, rfl, by omega, rfl⟩ ?hn3 ?hc3
      case hn3 =>
        rintro acc s ⟨k, rs, qs, e1, e2, rfl, _, rfl⟩
        refine ⟨trivial, ?_⟩
        repeat k_extra "y"
        refine' comp_ind (fun rest acc s => ∃ (k : Nat) (rs qs : List (Key × Dv)), rest = keysD rs ∧ ks = qs ++ rs ∧ acc = List.replicate k (.bl true) ∧ k + rs.length ≤ 1000 ∧ s = ⟨[.fz (.dic ks), .fz (.dic ks), .un, .un, .un], st⟩) ⟨0, ks, [], rfl, rfl, rfl, by omega, rfl⟩ ?hn4 ?hc4
        case hn4 =>
          rintro acc s ⟨k, rs, qs, e1, e2, rfl, _, rfl⟩
          refine ⟨trivial, ?_⟩
          repeat k_extra "y"
          exact q
        case hc4 =>
          rintro d rest acc s ih ⟨k, rs, qs, e1, e2, rfl, hk, rfl⟩
          cases rs with
          | nil => cases e1
          | cons p rs =>
          cases e1
          simp only [List.length_cons] at hk
          have hm : p ∈ ks := by rw [e2]; simp
          have hv := valD_mem hn (show (p.1, p.2) ∈ ks from hm)
          refine ⟨trivial, ?_⟩
          repeat k_extra "y"
          refine y_ixD (key_kD _) hv ?_
          repeat k_extra "y"
          refine y_ixD (key_kD _) hv ?_
          repeat k_extra "y"
          refine ⟨_, rfl, hs _ hm, ?_⟩
          repeat k_extra "y"
          exact ih _ _ ⟨k + 1, rs, qs ++ [p], rfl, by simp [e2], by rw [List.replicate_succ'] <;> rfl, by omega, rfl⟩
      case hc3 =>
        rintro d rest acc s ih ⟨k, rs, qs, e1, e2, rfl, hk, rfl⟩
        cases rs with
        | nil => cases e1
        | cons p rs =>
        cases e1
        simp only [List.length_cons] at hk
        have hm : p ∈ ks := by rw [e2]; simp
        have hv := valD_mem hn (show (p.1, p.2) ∈ ks from hm)
        refine ⟨trivial, ?_⟩
        repeat k_extra "y"
        refine y_inD (key_kD _) ?_
        rw [hv]
        repeat k_extra "y"
        exact ih _ _ ⟨k + 1, rs, qs ++ [p], rfl, by simp [e2], by rw [List.replicate_succ'] <;> rfl, by omega, rfl⟩
    | _ => exact h.elim
def F_copy (n : Nat) : VSp := fun ds st Q R => ∃ d, ds = [d] ∧ Sm n d ∧ Q (cpS d) st
theorem ok_copy0 (F : FnP K "_law_copy" s__law_copy f fd) (m : mg "_law_copy" = some (.ref f)) (b : Binds K fd ["thing"] []) : VD P w K mg base 1 "_law_copy" ["thing"] (F_copy 0) :=
  mk_v0 F m b sc__law_copy fun ds st Q R ⟨_, _, h, _⟩ => h
theorem ok_copy {n : Nat} (F : FnP K "_law_copy" s__law_copy f fd) (m : mg "_law_copy" = some (.ref f)) (b : Binds K fd ["thing"] []) (T : Blt mg) (G__law_copy : VD P w K mg base (n + 1) "_law_copy" ["thing"] (F_copy n)) : VD P w K mg base (n + 2) "_law_copy" ["thing"] (F_copy (n + 1)) := by
  refine' mk_v F m b sc__law_copy ?der ?hl ?rd
  case hl => rintro ds st Q R ⟨_, rfl, _⟩; rfl
  case der => exact
    fun cdv A outer s H E hr =>
      (vss_cons (vs_if (vc_val (ve_bn bn_isi (va_c (vnF 0) (va_c (ve_bty (T := "list") (by rfl) T.list (by decide +kernel)) va_nil)) (by rfl) T.isinstance (by decide +kernel)))
        (vss_one (vs_ret (ve_lc (own := [("part", 1)]) (.nm 1) rfl sc__law_copy.nd (vi_list (vnF 0)) (blkOk_by (own := [("part", 1)]) (N := ["thing", "part", "found", "key"]) (sc := (defScope s__law_copy)) (by decide +kernel)) (fun _ _ _ _ _ => (pg_name (i := 1) sc__law_copy.nd rfl (by first | exact Or.inl rfl | exact Or.inr rfl))) (fun _ _ _ _ _ => vts_nil) (fun _ _ _ _ _ => (ve_callP G__law_copy (hr.mono (by omega)) takes0 (va_c (vnF 1) va_nil))))))
        vss_nil)
       (vss_cons (vs_if (vc_val (ve_bn bn_isi (va_c (vnF 0) (va_c (ve_bty (T := "tuple") (by rfl) T.tuple (by decide +kernel)) va_nil)) (by rfl) T.isinstance (by decide +kernel)))
        (vss_one (vs_ret (ve_bt bf_tuple (vp_val (ve_lc (own := [("part", 1)]) (.nm 1) rfl sc__law_copy.nd (vi_tup (vnF 0)) (blkOk_by (own := [("part", 1)]) (N := ["thing", "part", "found", "key"]) (sc := (defScope s__law_copy)) (by decide +kernel)) (fun _ _ _ _ _ => (pg_name (i := 1) sc__law_copy.nd rfl (by first | exact Or.inl rfl | exact Or.inr rfl))) (fun _ _ _ _ _ => vts_nil) (fun _ _ _ _ _ => (ve_callP G__law_copy (hr.mono (by omega)) takes0 (va_c (vnF 1) va_nil))))) (by rfl) T.tuple (by decide +kernel))))
        vss_nil)
       (vss_cons (vs_if (vc_val (ve_bn bn_isi (va_c (vnF 0) (va_c (ve_bty (T := "dict") (by rfl) T.dict (by decide +kernel)) va_nil)) (by rfl) T.isinstance (by decide +kernel)))
        (vss_cons (vs_set (i := 2) sc__law_copy.nd rfl (by first | exact Or.inl rfl | exact Or.inr rfl) ve_dic0)
       (vss_cons (vs_forK (i := 0) (passes_of rfl) rfl rfl (by first | exact Or.inl rfl | exact Or.inr (Or.inl rfl) | exact Or.inr (Or.inr rfl)) (vg_name (i := 3) sc__law_copy.nd rfl (by first | exact Or.inl rfl | exact Or.inr rfl))
        (vss_one (vs_ixF (hu_of hr) (ve_callP G__law_copy (hr.mono (by omega)) takes0 (va_c (ve_ix (hu_of hr) (vpn 0) (vnF 3) (fun _ _ => rfl)) va_nil)) (vpn 2) (vnF 3))))
       (vss_one (vs_ret (vnF 2)))))
        vss_nil)
       (vss_one (vs_ret (vnF 0))))))
  case rd =>
    rintro ds st Q R ⟨d, rfl, h, q⟩
    cases d with
    | non =>
      repeat k_extra "y"
      exact q
    | bl z =>
      repeat k_extra "y"
      exact q
    | int z =>
      repeat k_extra "y"
      exact q
    | str z =>
      repeat k_extra "y"
      exact q
    | lst ds =>
      obtain ⟨hl, hs⟩ := h
      repeat k_extra "y"
      refine' comp_ind (fun rest acc s => ds = acc ++ rest ∧ s = ⟨[.fz (.lst ds), .un, .un, .un], st⟩) ⟨rfl, rfl⟩ ?hn5 ?hc5
      case hn5 =>
        rintro acc s ⟨e1, rfl⟩
        rw [List.append_nil] at e1
        subst e1
        refine ⟨trivial, ?_⟩
        repeat k_extra "y"
        exact q
      case hc5 =>
        rintro d rest acc s ih ⟨rfl, rfl⟩
        have l : acc.length ≤ 1000 := by simp only [List.length_append, List.length_cons] at hl; omega
        refine ⟨trivial, ?_⟩
        repeat k_extra "y"
        refine ⟨_, rfl, hs _ (by simp), ?_⟩
        simp only [fzd_e, cpS_d]
        repeat k_extra "y"
        exact ih _ _ ⟨by simp, rfl⟩
    | tup ds =>
      obtain ⟨hl, hs⟩ := h
      repeat k_extra "y"
      refine' comp_ind (fun rest acc s => ds = acc ++ rest ∧ s = ⟨[.fz (.tup ds), .un, .un, .un], st⟩) ⟨rfl, rfl⟩ ?hn6 ?hc6
      case hn6 =>
        rintro acc s ⟨e1, rfl⟩
        rw [List.append_nil] at e1
        subst e1
        refine ⟨trivial, ?_⟩
        repeat k_extra "y"
        exact q
      case hc6 =>
        rintro d rest acc s ih ⟨rfl, rfl⟩
        have l : acc.length ≤ 1000 := by simp only [List.length_append, List.length_cons] at hl; omega
        refine ⟨trivial, ?_⟩
        repeat k_extra "y"
        refine ⟨_, rfl, hs _ (by simp), ?_⟩
        simp only [fzd_e, cpS_d]
        repeat k_extra "y"
        exact ih _ _ ⟨by simp, rfl⟩
    | dic ks =>
      obtain ⟨hl, hn, hs⟩ := h
      repeat k_extra "y"
      refine for_ind (fun rest s => ∃ (rs qs : List (Key × Dv)) (a : Sl), rest = keysD rs ∧ ks = qs ++ rs ∧ s = ⟨[.fz (.dic ks), .un, .ow (.dic qs), a], st⟩) ⟨ks, [], _, rfl, rfl, rfl⟩ ?_ ?_
      · rintro s ⟨rs, qs, a, e1, e2, rfl⟩
        have : rs = [] := by cases rs with | nil => rfl | cons _ _ => cases e1
        subst this
        rw [List.append_nil] at e2
        subst e2
        refine ⟨trivial, ?_⟩
        repeat k_extra "y"
        exact q
      · rintro d rest s ih ⟨rs, qs, a, e1, e2, rfl⟩
        cases rs with
        | nil => cases e1
        | cons p rs =>
        cases e1
        have hm : p ∈ ks := by rw [e2]; simp
        have hv := valD_mem hn (show (p.1, p.2) ∈ ks from hm)
        have l : qs.length ≤ 1000 := by rw [e2] at hl; simp only [List.length_append, List.length_cons] at hl; omega
        have nw : p.1 ∉ qs.map (·.1) := by
          rw [e2, List.map_append, List.nodup_append] at hn
          intro hq
          exact hn.2.2 _ hq _ (by simp) rfl
        refine ⟨trivial, ?_⟩
        repeat k_extra "y"
        refine y_ixD (key_kD _) hv ?_
        repeat k_extra "y"
        refine ⟨_, rfl, hs _ hm, ?_⟩
        simp only [fzd_e, cpS_d]
        repeat k_extra "y"
        refine y_setD (key_kD _) (by have := sz16; omega) ?_
        rw [putD_new nw]
        repeat k_extra "y"
        exact ih _ ⟨rs, qs ++ [p], _, rfl, by simp [e2], rfl⟩
    | _ => exact h.elim
end
end MK



namespace MK
open PySem L2 VL

local macro_rules | `(tactic| k_extra "sd") => `(tactic| first
  | assumption
  | exact Nat.le_of_ble_eq_true rfl
  | ((try simp only [sz16, List.length_append, List.length_cons, List.length_nil, List.length_map, List.length_replicate]); omega)
  | decide
  | decide +kernel)
local macro_rules | `(tactic| k_extra "sd2") => `(tactic| first
  | trivial
  | ((with_reducible show look _ _ _); first | (refine x_lkV ?_; trivial) | (refine' x_lkF ?e ?k; (case e => rfl); (case k => trivial)) | (refine' x_lkO ?e ?k; (case e => rfl); (case k => trivial)))
  | k_extra "sd")
local macro_rules | `(tactic| k_extra "fc") => `(tactic| fail)
local macro_rules | `(tactic| k_extra "yd") => `(tactic| first
  | ((with_reducible show inD _ _ _); first | (refine' y_inT ?f ?g ?k; (case f => rfl); (case g => rfl)) | (refine' y_inL ?f ?g ?k; (case f => rfl); (case g => rfl)) | refine y_inS ?_ | (refine' y_inD ?e ?k; (case e => rfl)))
  | ((with_reducible show ixD _ _ _); first | (refine' y_ixT ?e ?k; (case e => rfl)) | (refine' y_ixL ?e ?k; (case e => rfl)) | (refine' y_ixT ?e ?k; (case e => assumption)) | (refine' y_ixL ?e ?k; (case e => assumption)) | (refine' y_ixT ?e ?k; (case e => exact atI_0)) | (refine' y_ixT ?e ?k; (case e => exact atI_1)) | (refine' y_ixT ?e ?k; (case e => exact atI_2)) | (refine' y_ixL ?e ?k; (case e => exact atI_0)) | (refine' y_ixD ?e ?e2 ?k; (case e => rfl); (case e2 => assumption)))
  | ((with_reducible show slD _ _ _ _); first | refine y_slL ?_ | refine sl_1 ?_ | refine sl_2 ?_ | (refine' y_slT ?n ?k; (case n => decide)) | (refine' y_slS ?l ?k; (case l => k_extra "sd")))
  | ((with_reducible show eqD _ _ _); refine' y_eq ?e ?k; (case e => rfl))
  | ((with_reducible show neD _ _ _); refine' y_ne ?e ?k; (case e => rfl))
  | ((with_reducible show strD _ _); first | refine y_strS ?_ | (refine' y_strI ?l ?k; (case l => k_extra "sd")))
  | ((with_reducible show allD _ _ _); refine y_allT ?_)
  | ((with_reducible show allD _ _ _); refine' y_all ?e ?k; (case e => first | assumption | rfl))
  | ((with_reducible show setD _ _ _ _); first | (refine' y_setL ?e ?k; (case e => rfl)) | (refine' y_setD ?e ?l ?k; (case e => rfl); (case l => k_extra "sd"))))
local macro_rules | `(tactic| k_extra "y") => `(tactic| first
  | ((with_reducible show And _ _); refine' And.intro ?l ?k; (case l => k_extra "sd2"))
  | ((with_reducible show ite _ _ _); first | refine iT (by first | rfl | decide) ?_ | refine iF (by first | decide) ?_ | (refine' iT ?h ?k; (case h => (simp; done))) | (refine' iF ?h ?k; (case h => (simp; done))) | fail)
  | ((with_reducible show br _ _ _); first | refine brT (by first | rfl | decide) ?_ | refine brF (by first | decide) ?_ | (refine' brT ?h ?k; (case h => (simp; done))) | (refine' brF ?h ?k; (case h => (simp; done))))
  | k_extra "yd"
  | k_extra "fc"
  | (fail_if_success (with_reducible show forV _ _ _ _ _ _ _)
     fail_if_success (with_reducible show compV _ _ _ _ _ _ _ _ _)
     fail_if_success (with_reducible show dcompV _ _ _ _ _ _ _ _ _ _)
     fail_if_success (with_reducible show Exists _)
     fail_if_success (with_reducible show And _ _)
     fail_if_success (refine' dupl ?i ?x; (case i => (conv => lhs; whnf)))
     conv => whnf))

theorem cdiv_of2 : True := trivial
local macro_rules | `(tactic| k_extra "sd") => `(tactic| first
  | exact ⟨by decide, by decide, by decide⟩
  | omega)
def pw (a : Str × Str) : Dv := .tup [.str a.1, .str a.2]
def Wok (ws : List (Str × Str)) : Prop := ∀ a ∈ ws, a.1.length ≤ 1921
theorem Wok.app {xs ys : List (Str × Str)} (h : Wok xs) (h2 : Wok ys) : Wok (xs ++ ys) := fun a ha => (List.mem_append.mp ha).elim (h a) (h2 a)
theorem e30 {i : Int} (h : 0 ≤ i) (h2 : i ≤ 10 ^ 30) : i.natAbs.log2 < 1920 := by
  by_cases z : i.natAbs = 0
  · rw [z]; decide
  · have := (Nat.log2_lt (k := 100) z).mpr (by omega)
    omega
theorem txl {i : Int} (h : i.natAbs.log2 < 1920) : (Str.ofString (toString i)).length ≤ 1921 := PyProof.Rows.int_text_len_1921 h
section
variable {P : Program} {w : World} {K : PySem.W.Frag} {mg : Str → Option Value} {base : Heap} {f aFORMS : Addr} {fd : FuncData}
def F_digits : VSp := fun ds st Q R => ∃ cl, ds = [.obj 0] ∧ st = [cl] ∧ DrC cl ∧ ∀ (v : Int) cl', 0 ≤ v → v ≤ 10 ^ 30 → DrC cl' → Q (.fz (.int v)) [cl']
theorem ok_digits (F : FnP K "_law_digits" s__law_digits f fd) (m : mg "_law_digits" = some (.ref f)) (b : Binds K fd ["draws"] []) (T : Blt mg) (G__law_draw : VD P w K mg base 1 "_law_draw" ["draws", "limit"] F_draw) : VD P w K mg base 2 "_law_digits" ["draws"] F_digits := by
  refine' mk_v F m b sc__law_digits ?der ?hl ?rd
  case hl => rintro ds st Q R ⟨_, rfl, _⟩; rfl
  case der => exact
    fun cdv A outer s H E hr =>
      (vss_cons (vs_set (i := 1) sc__law_digits.nd rfl (by first | exact Or.inl rfl | exact Or.inr rfl) (ve_callP G__law_draw (hr.mono (by omega)) (takes_of (E := E) rfl rfl rfl rfl) (va_c (vnF 0) (va_c ve_int va_nil))))
       (vss_cons (vs_if (vc_cmp (ov_eq hr.units) (vnF 1) ve_int (nomark _))
        (vss_one (vs_retF (ve_bin ov_sub (ve_bin ov_pow ve_int ve_int) (ve_callP G__law_draw (hr.mono (by omega)) (takes_of (E := E) rfl rfl rfl rfl) (va_c (vnF 0) (va_c (ve_bin ov_pow ve_int ve_int) va_nil))))))
        vss_nil)
       (vss_cons (vs_if (vc_cmp (ov_eq hr.units) (vnF 1) ve_int (nomark _))
        (vss_one (vs_retF ve_int))
        vss_nil)
       (vss_one (vs_retF (ve_callP G__law_draw (hr.mono (by omega)) (takes_of (E := E) rfl rfl rfl rfl) (va_c (vnF 0) (va_c (ve_ix (hu_of hr) (vp_val (ve_lst (va_c ve_int (va_c ve_int (va_c ve_int (va_c ve_int (va_c (ve_bin ov_pow ve_int ve_int) (va_c ve_int va_nil)))))))) (ve_bin ov_sub (vnF 1) ve_int) (fun _ _ => rfl)) va_nil))))))))
  case rd =>
    rintro ds st Q R ⟨cl, rfl, rfl, hd, q⟩
    have e14 : (10 : Int) ^ (14 : Int).toNat = 100000000000000 := by decide
    have e30 : (10 : Int) ^ (30 : Int).toNat = 1000000000000000000000000000000 := by decide
    have e9 : (10 : Int) ^ (9 : Int).toNat = 1000000000 := by decide
    repeat k_extra "y"
    refine ⟨cl, 8, rfl, rfl, hd, by decide, by decide, fun v c1 v0 v1 hd1 => ?_⟩
    repeat k_extra "y"
    refine ib rfl (fun h => ?_) (fun h => ?_)
    · repeat k_extra "y"
      rw [e14, e30]
      refine ⟨c1, _, rfl, rfl, hd1, by decide, by decide, fun u c2 u0 u1 hd2 => ?_⟩
      repeat k_extra "y"
      exact q _ _ (by omega) (by omega) hd2
    · repeat k_extra "y"
      refine ib rfl (fun h2 => ?_) (fun h2 => ?_)
      · repeat k_extra "y"
        exact q _ _ (by omega) (by omega) hd1
      · have : v = 2 ∨ v = 3 ∨ v = 4 ∨ v = 5 ∨ v = 6 ∨ v = 7 := by omega
        rcases this with rfl | rfl | rfl | rfl | rfl | rfl
        all_goals
          repeat k_extra "y"
          refine ⟨c1, _, rfl, rfl, hd1, by decide, by decide, fun u c2 u0 u1 hd2 => ?_⟩
          repeat k_extra "y"
          exact q _ _ (by omega) (by omega) hd2
def F_wm : VSp := fun ds st Q R => ∃ cl, ds = [.obj 0] ∧ st = [cl] ∧ DrC cl ∧ ∀ (i : Int) (ws : List (Str × Str)) cl', i.natAbs.log2 < 1920 → ws.map (·.1) = wholeW i → Wok ws → DrC cl' → Q (.fz (.tup [.int i, .lst (ws.map pw)])) [cl']
theorem ok_wm (F : FnP K "_law_whole_made" s__law_whole_made f fd) (m : mg "_law_whole_made" = some (.ref f)) (b : Binds K fd ["draws"] []) (T : Blt mg) (G__law_draw : VD P w K mg base 1 "_law_draw" ["draws", "limit"] F_draw) (G__law_digits : VD P w K mg base 2 "_law_digits" ["draws"] F_digits) : VD P w K mg base 3 "_law_whole_made" ["draws"] F_wm := by
  refine' mk_v F m b sc__law_whole_made ?der ?hl ?rd
  case hl => rintro ds st Q R ⟨_, rfl, _⟩; rfl
  case der => exact
    fun cdv A outer s H E hr =>
      (vss_cons (vs_set (i := 1) sc__law_whole_made.nd rfl (by first | exact Or.inl rfl | exact Or.inr rfl) (ve_callP G__law_digits (hr.mono (by omega)) (takes_of (E := E) rfl rfl rfl rfl) (va_c (vnF 0) va_nil)))
       (vss_cons (vs_if (VW.vc (vw_and (vc_cmp ov_gt (vnF 1) ve_int (nomark _)) (vw_and1 (vc_cmp (ov_eq hr.units) (ve_callP G__law_draw (hr.mono (by omega)) (takes_of (E := E) rfl rfl rfl rfl) (va_c (vnF 0) (va_c ve_int va_nil))) ve_int (nomark _)))))
        (vss_one (vs_retF (ve_tup (va_c (ve_bin ov_sub ve_int (vnF 1)) (va_c (ve_lst (va_c (ve_tup (va_c ve_str (va_c ve_str va_nil))) (va_c (ve_tup (va_c (ve_bt bf_str (vpn 1) (by rfl) T.str (by decide +kernel)) (va_c ve_str va_nil))) va_nil))) va_nil)))))
        vss_nil)
       (vss_one (vs_retF (ve_tup (va_c (vnF 1) (va_c (ve_lst (va_c (ve_tup (va_c (ve_bt bf_str (vpn 1) (by rfl) T.str (by decide +kernel)) (va_c ve_str va_nil))) va_nil)) va_nil)))))))
  case rd =>
    rintro ds st Q R ⟨cl, rfl, rfl, hd, q⟩
    repeat k_extra "y"
    refine ⟨cl, rfl, rfl, hd, fun v c1 v0 v1 hd1 => ?_⟩
    have lv := e30 v0 v1
    have fin : ∀ c2, DrC c2 → Q (.fz (.tup [.int v, .lst (([(toString v, "whole")] : List (Str × Str)).map pw)])) [c2] := fun c2 h2 => q v [(toString v, "whole")] c2 lv (by unfold wholeW; rw [if_neg (by omega)] <;> rfl) (fun a ha => by
      rw [List.mem_singleton.mp ha]
      exact txl lv) h2
    repeat k_extra "y"
    refine ib rfl (fun h => ?_) (fun h => ?_)
    · repeat k_extra "y"
      refine ⟨c1, 2, rfl, rfl, hd1, by decide, by decide, fun u c2 u0 u1 hd2 => ?_⟩
      repeat k_extra "y"
      refine ib rfl (fun h => ?_) (fun h => ?_)
      · repeat k_extra "y"
        have e : (0 - (0 - v)) = v := by omega
        refine q (0 - v) [("-", "sign"), (toString v, "more")] c2 (by rw [show (0 - v).natAbs = v.natAbs by omega]; exact lv) ?_ ?_ hd2
        · unfold wholeW
          rw [if_pos (by omega), e]
          rfl
        · intro a ha
          rcases List.mem_cons.mp ha with rfl | ha
          · decide
          · rw [List.mem_singleton.mp ha]
            exact txl lv
      · repeat k_extra "y"
        exact fin c2 hd2
    · repeat k_extra "y"
      exact fin c1 hd1
end
end MK



namespace MK
open PySem L2 VL

local macro_rules | `(tactic| k_extra "sd") => `(tactic| first
  | assumption
  | exact Nat.le_of_ble_eq_true rfl
  | ((try simp only [sz16, List.length_append, List.length_cons, List.length_nil, List.length_map, List.length_replicate]); omega)
  | decide
  | decide +kernel)
local macro_rules | `(tactic| k_extra "sd2") => `(tactic| first
  | trivial
  | ((with_reducible show look _ _ _); first | (refine x_lkV ?_; trivial) | (refine' x_lkF ?e ?k; (case e => rfl); (case k => trivial)) | (refine' x_lkO ?e ?k; (case e => rfl); (case k => trivial)))
  | k_extra "sd")
local macro_rules | `(tactic| k_extra "fc") => `(tactic| fail)
local macro_rules | `(tactic| k_extra "yd") => `(tactic| first
  | ((with_reducible show inD _ _ _); first | (refine' y_inT ?f ?g ?k; (case f => rfl); (case g => rfl)) | (refine' y_inL ?f ?g ?k; (case f => rfl); (case g => rfl)) | refine y_inS ?_ | (refine' y_inD ?e ?k; (case e => rfl)))
  | ((with_reducible show ixD _ _ _); first | (refine' y_ixT ?e ?k; (case e => rfl)) | (refine' y_ixL ?e ?k; (case e => rfl)) | (refine' y_ixT ?e ?k; (case e => assumption)) | (refine' y_ixL ?e ?k; (case e => assumption)) | (refine' y_ixT ?e ?k; (case e => exact atI_0)) | (refine' y_ixT ?e ?k; (case e => exact atI_1)) | (refine' y_ixT ?e ?k; (case e => exact atI_2)) | (refine' y_ixL ?e ?k; (case e => exact atI_0)) | (refine' y_ixD ?e ?e2 ?k; (case e => rfl); (case e2 => assumption)))
  | ((with_reducible show slD _ _ _ _); first | refine y_slL ?_ | refine sl_1 ?_ | refine sl_2 ?_ | (refine' y_slT ?n ?k; (case n => decide)) | (refine' y_slS ?l ?k; (case l => k_extra "sd")))
  | ((with_reducible show eqD _ _ _); refine' y_eq ?e ?k; (case e => rfl))
  | ((with_reducible show neD _ _ _); refine' y_ne ?e ?k; (case e => rfl))
  | ((with_reducible show strD _ _); first | refine y_strS ?_ | (refine' y_strI ?l ?k; (case l => k_extra "sd")))
  | ((with_reducible show allD _ _ _); refine y_allT ?_)
  | ((with_reducible show allD _ _ _); refine' y_all ?e ?k; (case e => first | assumption | rfl))
  | ((with_reducible show setD _ _ _ _); first | (refine' y_setL ?e ?k; (case e => rfl)) | (refine' y_setD ?e ?l ?k; (case e => rfl); (case l => k_extra "sd"))))
local macro_rules | `(tactic| k_extra "y") => `(tactic| first
  | ((with_reducible show And _ _); refine' And.intro ?l ?k; (case l => k_extra "sd2"))
  | ((with_reducible show ite _ _ _); first | refine iT (by first | rfl | decide) ?_ | refine iF (by first | decide) ?_ | (refine' iT ?h ?k; (case h => (simp; done))) | (refine' iF ?h ?k; (case h => (simp; done))) | fail)
  | ((with_reducible show br _ _ _); first | refine brT (by first | rfl | decide) ?_ | refine brF (by first | decide) ?_ | (refine' brT ?h ?k; (case h => (simp; done))) | (refine' brF ?h ?k; (case h => (simp; done))))
  | k_extra "yd"
  | k_extra "fc"
  | (fail_if_success (with_reducible show forV _ _ _ _ _ _ _)
     fail_if_success (with_reducible show compV _ _ _ _ _ _ _ _ _)
     fail_if_success (with_reducible show dcompV _ _ _ _ _ _ _ _ _ _)
     fail_if_success (with_reducible show Exists _)
     fail_if_success (with_reducible show And _ _)
     fail_if_success (refine' dupl ?i ?x; (case i => (conv => lhs; whnf)))
     conv => whnf))

local macro_rules | `(tactic| k_extra "sd") => `(tactic| first
  | exact ⟨by decide, by decide, by decide⟩
  | omega)
section
variable {P : Program} {w : World} {K : PySem.W.Frag} {mg : Str → Option Value} {base : Heap} {f aFORMS : Addr} {fd : FuncData}
def F_am : VSp := fun ds st Q R => ∃ cl, ds = [.obj 0] ∧ st = [cl] ∧ DrC cl ∧ ∀ (a b : Int) (ws : List (Str × Str)) cl', a.natAbs.log2 < 1920 → b.natAbs.log2 < 1920 → ws.map (·.1) = amountW a b → Wok ws → DrC cl' → Q (.fz (.tup [.tup [.int a, .int b], .lst (ws.map pw)])) [cl']
theorem ok_am (F : FnP K "_law_amount_made" s__law_amount_made f fd) (m : mg "_law_amount_made" = some (.ref f)) (b : Binds K fd ["draws"] []) (T : Blt mg) (G__law_draw : VD P w K mg base 1 "_law_draw" ["draws", "limit"] F_draw) (G__law_whole_made : VD P w K mg base 3 "_law_whole_made" ["draws"] F_wm) (G__law_gcd : VD P w K mg base 1 "_law_gcd" ["a", "b"] F_gcd) : VD P w K mg base 4 "_law_amount_made" ["draws"] F_am := by
  refine' mk_v F m b sc__law_amount_made ?der ?hl ?rd
  case hl => rintro ds st Q R ⟨_, rfl, _⟩; rfl
  case der => exact
    fun cdv A outer s H E hr =>
      (vss_cons (vs_asg (ve_callP G__law_whole_made (hr.mono (by omega)) (takes_of (E := E) rfl rfl rfl rfl) (va_c (vnF 0) va_nil)) (vg_tup (n := 2) rfl (vgs_cons (vg_name (i := 1) sc__law_amount_made.nd rfl (by first | exact Or.inl rfl | exact Or.inr rfl)) (vgs_cons (vg_name (i := 2) sc__law_amount_made.nd rfl (by first | exact Or.inl rfl | exact Or.inr rfl)) vgs_nil))))
       (vss_cons (vs_set (i := 3) sc__law_amount_made.nd rfl (by first | exact Or.inl rfl | exact Or.inr rfl) (ve_ix (hu_of hr) (vp_val (ve_lst (va_c ve_int (va_c ve_int (va_c ve_int (va_c ve_int (va_c (ve_bin ov_add (ve_bin ov_pow ve_int ve_int) ve_int) va_nil))))))) (ve_callP G__law_draw (hr.mono (by omega)) (takes_of (E := E) rfl rfl rfl rfl) (va_c (vnF 0) (va_c ve_int va_nil))) (fun _ _ => rfl)))
       (vss_cons (vs_if (VW.vc (vw_or (vc_cmp (ov_eq hr.units) (vnF 3) ve_int (nomark _)) (vw_or1 (vc_cmp (ov_ne hr.units) (ve_callP G__law_gcd (hr.mono (by omega)) (takes_of (E := E) rfl rfl rfl rfl) (va_c (ve_bf bf_abs (vpn 1) (by rfl) T.abs (by decide +kernel)) (va_c (vnF 3) va_nil))) ve_int (nomark _)))))
        (vss_one (vs_retF (ve_tup (va_c (ve_tup (va_c (vnF 1) (va_c ve_int va_nil))) (va_c (vnF 2) va_nil)))))
        vss_nil)
       (vss_one (vs_retF (ve_tup (va_c (ve_tup (va_c (vnF 1) (va_c (vnF 3) va_nil))) (va_c (ve_bin ov_add (vnF 2) (ve_lst (va_c (ve_tup (va_c ve_str (va_c ve_str va_nil))) (va_c (ve_tup (va_c (ve_bt bf_str (vpn 3) (by rfl) T.str (by decide +kernel)) (va_c ve_str va_nil))) va_nil)))) va_nil))))))))
  case rd =>
    rintro ds st Q R ⟨cl, rfl, rfl, hd, q⟩
    have e20 : (10 : Int) ^ (20 : Int).toNat = 100000000000000000000 := by decide
    repeat k_extra "y"
    refine ⟨cl, rfl, rfl, hd, fun i ws c1 li hw wk hd1 => ?_⟩
    have one : ∀ c2, DrC c2 → Q (.fz (.tup [.tup [.int i, .int 1], .lst (ws.map pw)])) [c2] := fun c2 h2 => q i 1 ws c2 li (by decide) (by rw [hw]; unfold amountW; simp) wk h2
    have lw : ws.length ≤ 2 := by
      have := wholeW_len (i := i)
      rw [← hw, List.length_map] at this
      exact this
    have two : ∀ c2 (lo : Int), 1 < lo → lo.natAbs.log2 < 1920 → DrC c2 → Q (.fz (.tup [.tup [.int i, .int lo], .lst ((ws ++ ([("/", "sign"), (toString lo, "low")] : List (Str × Str))).map pw)])) [c2] := fun c2 lo l1 l2 h2 => q i lo _ c2 li l2 (by
        rw [List.map_append, hw]
        unfold amountW
        rw [if_pos l1]
        rfl) (wk.app fun a ha => by
          rcases List.mem_cons.mp ha with rfl | ha
          · decide
          · rw [List.mem_singleton.mp ha]
            exact txl l2) h2
    repeat k_extra "y"
    refine ⟨c1, 5, rfl, rfl, hd1, by decide, by decide, fun v c2 v0 v1 hd2 => ?_⟩
    have : v = 0 ∨ v = 1 ∨ v = 2 ∨ v = 3 ∨ v = 4 := by omega
    rcases this with rfl | rfl | rfl | rfl | rfl
    · repeat k_extra "y"
      exact one c2 hd2
    · repeat k_extra "y"
      exact one c2 hd2
    all_goals
      repeat k_extra "y"
      refine ⟨_, _, rfl, fun r => ?_⟩
      repeat k_extra "y"
      have key := two c2
      simp only [List.map_append] at key
      refine ib (c := ¬ r = 1) (by by_cases z : r = 1 <;> simp [z]) (fun h => ?_) (fun h => ?_)
      · repeat k_extra "y"
        exact one c2 hd2
      · repeat k_extra "y"
        exact key _ (by decide) (by decide) hd2
end
end MK



namespace MK
open PySem L2 VL

local macro_rules | `(tactic| k_extra "sd") => `(tactic| first
  | assumption
  | exact Nat.le_of_ble_eq_true rfl
  | ((try simp only [sz16, List.length_append, List.length_cons, List.length_nil, List.length_map, List.length_replicate]); omega)
  | decide
  | decide +kernel)
local macro_rules | `(tactic| k_extra "sd2") => `(tactic| first
  | trivial
  | ((with_reducible show look _ _ _); first | (refine x_lkV ?_; trivial) | (refine' x_lkF ?e ?k; (case e => rfl); (case k => trivial)) | (refine' x_lkO ?e ?k; (case e => rfl); (case k => trivial)))
  | k_extra "sd")
local macro_rules | `(tactic| k_extra "fc") => `(tactic| fail)
local macro_rules | `(tactic| k_extra "yd") => `(tactic| first
  | ((with_reducible show inD _ _ _); first | (refine' y_inT ?f ?g ?k; (case f => rfl); (case g => rfl)) | (refine' y_inL ?f ?g ?k; (case f => rfl); (case g => rfl)) | refine y_inS ?_ | (refine' y_inD ?e ?k; (case e => rfl)))
  | ((with_reducible show ixD _ _ _); first | (refine' y_ixT ?e ?k; (case e => rfl)) | (refine' y_ixL ?e ?k; (case e => rfl)) | (refine' y_ixT ?e ?k; (case e => assumption)) | (refine' y_ixL ?e ?k; (case e => assumption)) | (refine' y_ixT ?e ?k; (case e => exact atI_0)) | (refine' y_ixT ?e ?k; (case e => exact atI_1)) | (refine' y_ixT ?e ?k; (case e => exact atI_2)) | (refine' y_ixL ?e ?k; (case e => exact atI_0)) | (refine' y_ixD ?e ?e2 ?k; (case e => rfl); (case e2 => assumption)))
  | ((with_reducible show slD _ _ _ _); first | refine y_slL ?_ | refine sl_1 ?_ | refine sl_2 ?_ | (refine' y_slT ?n ?k; (case n => decide)) | (refine' y_slS ?l ?k; (case l => k_extra "sd")))
  | ((with_reducible show eqD _ _ _); refine' y_eq ?e ?k; (case e => rfl))
  | ((with_reducible show neD _ _ _); refine' y_ne ?e ?k; (case e => rfl))
  | ((with_reducible show strD _ _); first | refine y_strS ?_ | (refine' y_strI ?l ?k; (case l => k_extra "sd")))
  | ((with_reducible show allD _ _ _); refine y_allT ?_)
  | ((with_reducible show allD _ _ _); refine' y_all ?e ?k; (case e => first | assumption | rfl))
  | ((with_reducible show setD _ _ _ _); first | (refine' y_setL ?e ?k; (case e => rfl)) | (refine' y_setD ?e ?l ?k; (case e => rfl); (case l => k_extra "sd"))))
local macro_rules | `(tactic| k_extra "y") => `(tactic| first
  | ((with_reducible show And _ _); refine' And.intro ?l ?k; (case l => k_extra "sd2"))
  | ((with_reducible show ite _ _ _); first | refine iT (by first | rfl | decide) ?_ | refine iF (by first | decide) ?_ | (refine' iT ?h ?k; (case h => (simp; done))) | (refine' iF ?h ?k; (case h => (simp; done))) | fail)
  | ((with_reducible show br _ _ _); first | refine brT (by first | rfl | decide) ?_ | refine brF (by first | decide) ?_ | (refine' brT ?h ?k; (case h => (simp; done))) | (refine' brF ?h ?k; (case h => (simp; done))))
  | k_extra "yd"
  | k_extra "fc"
  | (fail_if_success (with_reducible show forV _ _ _ _ _ _ _)
     fail_if_success (with_reducible show compV _ _ _ _ _ _ _ _ _)
     fail_if_success (with_reducible show dcompV _ _ _ _ _ _ _ _ _ _)
     fail_if_success (with_reducible show Exists _)
     fail_if_success (with_reducible show And _ _)
     fail_if_success (refine' dupl ?i ?x; (case i => (conv => lhs; whnf)))
     conv => whnf))

def IsNm (j : Nat) (s : Str) : Prop := j < 20 ∧ s.length ≤ 40 ∧ 97 + j ∈ s.cps.toList ∧ ∀ c ∈ s.cps.toList, c = 97 + j ∨ 117 ≤ c
inductive F2 : List Nat → List Str → Prop
  | nil : F2 [] []
  | cons {j : Nat} {s : Str} {js : List Nat} {ss : List Str} (h : IsNm j s) (r : F2 js ss) : F2 (j :: js) (s :: ss)
theorem nm_nodup {js : List Nat} {ss : List Str} (h : F2 js ss) (nd : js.Nodup) : ss.Nodup := by
  induction h with
  | nil => exact List.nodup_nil
  | @cons j s js ss h1 h2 ih =>
    rw [List.nodup_cons] at nd ⊢
    refine ⟨fun hm => ?_, ih nd.2⟩
    have key : ∀ {js : List Nat} {ss : List Str}, F2 js ss → s ∈ ss → j ∈ js := by
      intro js ss h hm
      induction h with
      | nil => cases hm
      | @cons j' s' js ss h1' h2 ih =>
        rcases List.mem_cons.mp hm with rfl | hm
        · rcases h1'.2.2.2 _ h1.2.2.1 with e | e
          · rw [show j = j' by omega]; exact List.mem_cons_self
          · have := h1.1
            omega
        · exact List.mem_cons_of_mem _ (ih hm)
    exact nd.1 (key h2 hm)
theorem nm_len {js : List Nat} {ss : List Str} (h : F2 js ss) : ∀ s ∈ ss, s.length ≤ 40 := by
  induction h with
  | nil => intro s hs; cases hs
  | cons h1 h2 ih =>
    intro s hs
    rcases List.mem_cons.mp hs with rfl | hs
    · exact h1.2.1
    · exact ih s hs
theorem f2_app {js : List Nat} {ss : List Str} {j : Nat} {s : Str} (h : F2 js ss) (g : IsNm j s) : F2 (js ++ [j]) (ss ++ [s]) := by
  induction h with
  | nil => exact .cons g .nil
  | cons h1 h2 ih => exact .cons h1 ih
theorem erase_perm {os : List Nat} {i : Nat} (hi : i < os.length) : (os[i] :: os.eraseIdx i).Perm os := by
  rw [List.eraseIdx_eq_take_drop_succ]
  have e : os = os.take i ++ os[i] :: os.drop (i + 1) := by rw [← List.drop_eq_getElem_cons hi, List.take_append_drop]
  exact (List.perm_middle.symm).trans (List.Perm.of_eq e.symm)
theorem map_erase {α β : Type} {f : α → β} {l : List α} {i : Nat} : (l.map f).eraseIdx i = (l.eraseIdx i).map f := by
  rw [List.eraseIdx_eq_take_drop_succ, List.eraseIdx_eq_take_drop_succ, List.map_append, List.map_take, List.map_drop]
def uz : Str := "uvwxyz"
def at20 : Str := "abcdefghijklmnopqrst"
theorem uz_at {i : Int} (h : 0 ≤ i) (h2 : i < 6) : ∃ c, atI (Str.ofString "uvwxyz").cps.toList i = some c ∧ 117 ≤ c := by
  have : i = 0 ∨ i = 1 ∨ i = 2 ∨ i = 3 ∨ i = 4 ∨ i = 5 := by omega
  rcases this with rfl | rfl | rfl | rfl | rfl | rfl <;> exact ⟨_, rfl, by decide⟩
theorem at20_at {j : Nat} (h : j < 20) : atI (Str.ofString "abcdefghijklmnopqrst").cps.toList (j : Int) = some (97 + j) := by
  have : j = 0 ∨ j = 1 ∨ j = 2 ∨ j = 3 ∨ j = 4 ∨ j = 5 ∨ j = 6 ∨ j = 7 ∨ j = 8 ∨ j = 9 ∨ j = 10 ∨ j = 11 ∨ j = 12 ∨ j = 13 ∨ j = 14 ∨ j = 15 ∨ j = 16 ∨ j = 17 ∨ j = 18 ∨ j = 19 := by omega
  rcases this with rfl | rfl | rfl | rfl | rfl | rfl | rfl | rfl | rfl | rfl | rfl | rfl | rfl | rfl | rfl | rfl | rfl | rfl | rfl | rfl <;> rfl
theorem one_mem {c d : Nat} : d ∈ (⟨#[c]⟩ : Str).cps.toList ↔ d = c := by
  show d ∈ [c] ↔ _
  exact List.mem_singleton
theorem one_len {c : Nat} : (⟨#[c]⟩ : Str).length = 1 := rfl
theorem range20 : rangeD 0 (20 : Int).toNat = (List.range 20).map fun (o : Nat) => Dv.int o := by
  unfold rangeD
  apply List.map_congr_left
  intro a _
  simp
section
variable {P : Program} {w : World} {K : PySem.W.Frag} {mg : Str → Option Value} {base : Heap} {f aFORMS : Addr} {fd : FuncData}
def F_names : VSp := fun ds st Q R => ∃ (cl : Cl) (many : Nat), ds = [.obj 0, .int (many : Int)] ∧ st = [cl] ∧ DrC cl ∧ many ≤ 12 ∧ ∀ (names : List Str) cl', names.length = many → names.Nodup → (∀ s ∈ names, s.length ≤ 40) → DrC cl' → Q (.fz (.lst (sw names))) [cl']
theorem ok_names (F : FnP K "_law_names" s__law_names f fd) (m : mg "_law_names" = some (.ref f)) (b : Binds K fd ["draws", "many"] []) (T : Blt mg) (G__law_draw : VD P w K mg base 1 "_law_draw" ["draws", "limit"] F_draw) : VD P w K mg base 2 "_law_names" ["draws", "many"] F_names := by
  refine' mk_v F m b sc__law_names ?der ?hl ?rd
  case hl => rintro ds st Q R ⟨_, _, rfl, _⟩; rfl
  case der => exact
    fun cdv A outer s H E hr =>
      (vss_cons (vs_set (i := 2) sc__law_names.nd rfl (by first | exact Or.inl rfl | exact Or.inr rfl) (ve_lst va_nil))
       (vss_cons (vs_setLc (i := 3) (own := [("at", 4)]) (.nm 4) rfl sc__law_names.nd rfl rfl (sw_true rfl rfl rfl (by decide +kernel)) (vi_range1 (by rfl) T.range (va_c ve_int va_nil)) (blkOk_by (own := [("at", 4)]) (N := ["draws", "many", "found", "order", "at", "k", "own", "text"]) (sc := (defScope s__law_names)) (by decide +kernel)) (fun _ _ _ _ _ => (pg_name (i := 4) sc__law_names.nd rfl (by first | exact Or.inl rfl | exact Or.inr rfl))) (fun _ _ _ _ _ => vts_nil) (fun _ _ _ _ _ => (vnF 4)))
       (vss_cons (vs_for (passes_of rfl) rfl (vi_range1 (by rfl) T.range (va_c (vnF 1) va_nil)) (vg_name (i := 5) sc__law_names.nd rfl (by first | exact Or.inl rfl | exact Or.inr rfl))
        (vss_cons (vs_set (i := 6) sc__law_names.nd rfl (by first | exact Or.inl rfl | exact Or.inr rfl) (ve_mu PySem.F.plainAttrs_list PySem.F.slot_list_pop PySem.F.type_list_pop mu_pop (vpn 3) (va_c (ve_callP G__law_draw (hr.mono (by omega)) (takes_of (E := E) rfl rfl rfl rfl) (va_c (vnF 0) (va_c (ve_bf bf_len (vpn 3) (by rfl) T.len (by decide +kernel)) va_nil))) va_nil)))
       (vss_cons (vs_set (i := 7) sc__law_names.nd rfl (by first | exact Or.inl rfl | exact Or.inr rfl) ve_str)
       (vss_cons (vs_for (passes_of rfl) rfl (vi_range1 (by rfl) T.range (va_c (ve_callP G__law_draw (hr.mono (by omega)) (takes_of (E := E) rfl rfl rfl rfl) (va_c (vnF 0) (va_c (ve_ix (hu_of hr) (vp_val (ve_lst (va_c ve_int (va_c ve_int (va_c ve_int va_nil))))) (ve_callP G__law_draw (hr.mono (by omega)) (takes_of (E := E) rfl rfl rfl rfl) (va_c (vnF 0) (va_c ve_int va_nil))) (fun _ _ => rfl)) va_nil))) va_nil)) (vg_name (i := 4) sc__law_names.nd rfl (by first | exact Or.inl rfl | exact Or.inr rfl))
        (vss_one (vs_set (i := 7) sc__law_names.nd rfl (by first | exact Or.inl rfl | exact Or.inr rfl) (ve_bin ov_add (vnF 7) (ve_ix (hu_of hr) (vp_val ve_str) (ve_callP G__law_draw (hr.mono (by omega)) (takes_of (E := E) rfl rfl rfl rfl) (va_c (vnF 0) (va_c ve_int va_nil))) (fun _ _ => rfl))))))
       (vss_cons (vs_set (i := 4) sc__law_names.nd rfl (by first | exact Or.inl rfl | exact Or.inr rfl) (ve_callP G__law_draw (hr.mono (by omega)) (takes_of (E := E) rfl rfl rfl rfl) (va_c (vnF 0) (va_c (ve_bin ov_add (ve_bf bf_len (vpn 7) (by rfl) T.len (by decide +kernel)) ve_int) va_nil))))
       (vss_one (vs_expr (ve_mu PySem.F.plainAttrs_list PySem.F.slot_list_append PySem.F.type_list_append mu_append (vpn 2) (va_c (ve_bin ov_add (ve_bin ov_add (ve_slice (vpn 7) vo_none (vo_some (vnF 4))) (ve_ix (hu_of hr) (vp_val ve_str) (vnF 6) (fun _ _ => rfl))) (ve_slice (vpn 7) (vo_some (vnF 4)) vo_none)) va_nil)))))))))
       (vss_one (vs_retF (vnF 2))))))
  case rd =>
    rintro ds st Q R ⟨cl, many, rfl, rfl, hd, hm, q⟩
    repeat k_extra "y"
    refine' comp_ind (fun rest acc s => ∃ (k m : Nat) (a : Sl), rest = rangeD (k : Int) m ∧ k + m = 20 ∧ acc = (List.range k).map (fun (o : Nat) => Dv.int o) ∧ s = ⟨[.fz (.obj 0), .fz (.int many), .ow (.lst []), .un, a, .un, .un, .un], [cl]⟩) ⟨0, 20, _, rfl, by omega, rfl, rfl⟩ ?hn1 ?hc1
    case hc1 =>
      rintro d rest acc s ih ⟨k, m, a, e1, e2, rfl, rfl⟩
      cases m with
      | zero => cases e1
      | succ m =>
      rw [rangeD_succ] at e1
      cases e1
      refine ⟨trivial, ?_⟩
      repeat k_extra "y"
      refine ⟨by rw [List.length_map, List.length_range]; have := sz16; omega, ?_⟩
      exact ih _ _ ⟨k + 1, m, _, rfl, by omega, by rw [List.range_succ, List.map_append] <;> rfl, rfl⟩
    case hn1 =>
      rintro acc s ⟨k, m, a, e1, e2, rfl, rfl⟩
      have hm0 : m = 0 := by
        cases m with
        | zero => rfl
        | succ m => rw [rangeD_succ] at e1; cases e1
      subst hm0
      have hk : k = 20 := by omega
      subst hk
      refine ⟨trivial, ?_⟩
      repeat k_extra "y"
      refine' for_ind (fun rest s => ∃ (k m : Nat) (js os : List Nat) (names : List Str) (c1 : Cl) (x1 x2 x3 x4 : Sl), rest = rangeD (k : Int) m ∧ names.length + m = many ∧ os.length + names.length = 20 ∧ F2 js names ∧ (js ++ os).Nodup ∧ (∀ o ∈ os, o < 20) ∧ DrC c1 ∧ s = ⟨[.fz (.obj 0), .fz (.int many), .ow (.lst (sw names)), .ow (.lst (os.map fun (o : Nat) => Dv.int o)), x1, x2, x3, x4], [c1]⟩)
        ⟨0, many, [], List.range 20, [], cl, _, _, _, _, rfl, by simp, by simp, .nil, List.nodup_range, fun o ho => List.mem_range.mp ho, hd, rfl⟩ ?hn2 ?hc2
      case hn2 =>
        rintro s ⟨k, m, js, os, names, c1, x1, x2, x3, x4, e1, e2, e3, hf, hnd, ho, hd1, rfl⟩
        have hm0 : m = 0 := by
          cases m with
          | zero => rfl
          | succ m => rw [rangeD_succ] at e1; cases e1
        subst hm0
        refine ⟨trivial, ?_⟩
        repeat k_extra "y"
        exact q names c1 (by omega) (nm_nodup hf (List.nodup_append.mp hnd).1) (nm_len hf) hd1
      case hc2 =>
        rintro d rest s ih ⟨k, m, js, os, names, c1, x1, x2, x3, x4, e1, e2, e3, hf, hnd, ho, hd1, rfl⟩
        cases m with
        | zero => cases e1
        | succ m =>
        rw [rangeD_succ] at e1
        cases e1
        have hol : (os.map fun (o : Nat) => Dv.int o).length = os.length := List.length_map _
        refine ⟨trivial, ?_⟩
        repeat k_extra "y"
        refine ⟨c1, _, rfl, rfl, hd1, by rw [hol]; omega, by rw [hol]; omega, fun v c2 v0 v1 hd2 => ?_⟩
        rw [hol] at v1
        obtain ⟨i, rfl⟩ : ∃ i : Nat, v = (i : Int) := ⟨v.toNat, by omega⟩
        have hi : i < os.length := by omega
        repeat k_extra "y"
        refine y_pop (y := .int (os[i] : Nat)) (by rw [hol]; omega) (by simp [hi]) ?_
        have hoi : os[i] < 20 := ho _ (List.getElem_mem hi)
        have hat := at20_at hoi
        repeat k_extra "y"
        refine ⟨c2, 3, rfl, rfl, hd2, by decide, by decide, fun u c3 u0 u1 hd3 => ?_⟩
        have : ∃ L : Int, 0 < L ∧ L ≤ 12 ∧ atI [Dv.int 3, .int 3, .int 12] u = some (.int L) := by
          have : u = 0 ∨ u = 1 ∨ u = 2 := by omega
          rcases this with rfl | rfl | rfl
          · exact ⟨3, by decide, by decide, rfl⟩
          · exact ⟨3, by decide, by decide, rfl⟩
          · exact ⟨12, by decide, by decide, rfl⟩
        obtain ⟨L, L0, L1, hL⟩ := this
        repeat k_extra "y"
        refine ⟨c3, L, rfl, rfl, hd3, L0, by omega, fun v c4 v0 v1 hd4 => ?_⟩
        repeat k_extra "y"
        refine' for_ind (fun rest s => ∃ (k m : Nat) (text : Str) (c1 : Cl) (x1 x2 : Sl), rest = rangeD (k : Int) m ∧ text.length + m ≤ 12 ∧ (∀ c ∈ text.cps.toList, 117 ≤ c) ∧ DrC c1 ∧ s = ⟨[.fz (.obj 0), .fz (.int many), .ow (.lst (sw names)), .ow (.lst ((os.map fun (o : Nat) => Dv.int o).eraseIdx i)), x1, x2, .fz (.int (os[i] : Nat)), .fz (.str text)], [c1]⟩)
          ⟨0, v.toNat, "", c4, _, _, rfl, by show 0 + _ ≤ _; omega, fun c hc => absurd (show c ∈ ([] : List Nat) from hc) (by simp), hd4, rfl⟩ ?hn3 ?hc3
        case hc3 =>
          rintro d rest s ih ⟨k, m, text, c5, x1, x2, e1, e2, ht, hd5, rfl⟩
          cases m with
          | zero => cases e1
          | succ m =>
          rw [rangeD_succ] at e1
          cases e1
          refine ⟨trivial, ?_⟩
          repeat k_extra "y"
          refine ⟨c5, 6, rfl, rfl, hd5, by decide, by decide, fun u c6 u0 u1 hd6 => ?_⟩
          obtain ⟨c, hc, hc2⟩ := uz_at u0 u1
          repeat k_extra "y"
          refine y_ixS (by decide) hc ?_
          repeat k_extra "y"
          refine And.intro (by rw [one_len]; have := sz16; omega) ?_
          repeat k_extra "y"
          refine ih _ ⟨k + 1, m, text ++ ⟨#[c]⟩, c6, _, _, rfl, by rw [app_len, one_len]; omega, fun d hd => ?_, hd6, rfl⟩
          rcases app_mem.mp hd with h | h
          · exact ht d h
          · rw [one_mem.mp h]; exact hc2
        case hn3 =>
          rintro s ⟨k2, m2, text, c5, x1, x2, e1, e2', ht, hd5, rfl⟩
          refine ⟨trivial, ?_⟩
          repeat k_extra "y"
          refine ⟨c5, _, rfl, rfl, hd5, by omega, by omega, fun u c6 u0 u1 hd6 => ?_⟩
          repeat k_extra "y"
          refine y_ixS (by decide) hat ?_
          repeat k_extra "y"
          have l1 := cutS_len (z := text) (lo := none) (hi := some u)
          have l2 := cutS_len (z := text) (lo := some u) (hi := none)
          refine And.intro (by rw [one_len]; have := sz16; omega) ?_
          repeat k_extra "y"
          refine And.intro (by rw [app_len, one_len]; have := sz16; omega) ?_
          repeat k_extra "y"
          have hperm : (os[i] :: os.eraseIdx i).Perm os := erase_perm hi
          refine' ih _ ⟨_, m, js ++ [os[i]], os.eraseIdx i, names ++ [cutS text none (some u) ++ ⟨#[97 + os[i]]⟩ ++ cutS text (some u) none], c6, _, _, _, _, rfl, by simp; omega, by rw [List.length_eraseIdx_of_lt hi]; simp; omega, f2_app hf ⟨hoi, by rw [app_len, app_len, one_len]; omega, ?a1, ?a2⟩, ?a3, fun o h => ho o (List.mem_of_mem_eraseIdx h), hd6, ?a4⟩
          case a1 => exact app_mem.mpr (.inl (app_mem.mpr (.inr (one_mem.mpr rfl))))
          case a2 =>
            intro d hd
            rcases app_mem.mp hd with h | h
            · rcases app_mem.mp h with h | h
              · exact .inr (ht d (cutS_mem h))
              · exact .inl (one_mem.mp h)
            · exact .inr (ht d (cutS_mem h))
          case a3 =>
            rw [List.append_assoc]
            exact ((List.Perm.append_left js hperm).nodup_iff).mpr hnd
          case a4 =>
            simp only [sw, List.map_append, map_erase]
            rfl
end
end MK



namespace MK
open PySem L2 VL

local macro_rules | `(tactic| k_extra "sd") => `(tactic| first
  | assumption
  | exact Nat.le_of_ble_eq_true rfl
  | ((try simp only [sz16, List.length_append, List.length_cons, List.length_nil, List.length_map, List.length_replicate]); omega)
  | decide
  | decide +kernel)
local macro_rules | `(tactic| k_extra "sd2") => `(tactic| first
  | trivial
  | ((with_reducible show look _ _ _); first | (refine x_lkV ?_; trivial) | (refine' x_lkF ?e ?k; (case e => rfl); (case k => trivial)) | (refine' x_lkO ?e ?k; (case e => rfl); (case k => trivial)))
  | k_extra "sd")
local macro_rules | `(tactic| k_extra "fc") => `(tactic| fail)
local macro_rules | `(tactic| k_extra "yd") => `(tactic| first
  | ((with_reducible show inD _ _ _); first | (refine' y_inT ?f ?g ?k; (case f => rfl); (case g => rfl)) | (refine' y_inL ?f ?g ?k; (case f => rfl); (case g => rfl)) | refine y_inS ?_ | (refine' y_inD ?e ?k; (case e => rfl)))
  | ((with_reducible show ixD _ _ _); first | (refine' y_ixT ?e ?k; (case e => rfl)) | (refine' y_ixL ?e ?k; (case e => rfl)) | (refine' y_ixT ?e ?k; (case e => assumption)) | (refine' y_ixL ?e ?k; (case e => assumption)) | (refine' y_ixT ?e ?k; (case e => exact atI_0)) | (refine' y_ixT ?e ?k; (case e => exact atI_1)) | (refine' y_ixT ?e ?k; (case e => exact atI_2)) | (refine' y_ixL ?e ?k; (case e => exact atI_0)) | (refine' y_ixD ?e ?e2 ?k; (case e => rfl); (case e2 => assumption)))
  | ((with_reducible show slD _ _ _ _); first | refine y_slL ?_ | refine sl_1 ?_ | refine sl_2 ?_ | (refine' y_slT ?n ?k; (case n => decide)) | (refine' y_slS ?l ?k; (case l => k_extra "sd")))
  | ((with_reducible show eqD _ _ _); refine' y_eq ?e ?k; (case e => rfl))
  | ((with_reducible show neD _ _ _); refine' y_ne ?e ?k; (case e => rfl))
  | ((with_reducible show strD _ _); first | refine y_strS ?_ | (refine' y_strI ?l ?k; (case l => k_extra "sd")))
  | ((with_reducible show allD _ _ _); refine y_allT ?_)
  | ((with_reducible show allD _ _ _); refine' y_all ?e ?k; (case e => first | assumption | rfl))
  | ((with_reducible show setD _ _ _ _); first | (refine' y_setL ?e ?k; (case e => rfl)) | (refine' y_setD ?e ?l ?k; (case e => rfl); (case l => k_extra "sd"))))
local macro_rules | `(tactic| k_extra "y") => `(tactic| first
  | ((with_reducible show And _ _); refine' And.intro ?l ?k; (case l => k_extra "sd2"))
  | ((with_reducible show ite _ _ _); first | refine iT (by first | rfl | decide) ?_ | refine iF (by first | decide) ?_ | (refine' iT ?h ?k; (case h => (simp; done))) | (refine' iF ?h ?k; (case h => (simp; done))) | fail)
  | ((with_reducible show br _ _ _); first | refine brT (by first | rfl | decide) ?_ | refine brF (by first | decide) ?_ | (refine' brT ?h ?k; (case h => (simp; done))) | (refine' brF ?h ?k; (case h => (simp; done))))
  | k_extra "yd"
  | k_extra "fc"
  | (fail_if_success (with_reducible show forV _ _ _ _ _ _ _)
     fail_if_success (with_reducible show compV _ _ _ _ _ _ _ _ _)
     fail_if_success (with_reducible show dcompV _ _ _ _ _ _ _ _ _ _)
     fail_if_success (with_reducible show Exists _)
     fail_if_success (with_reducible show And _ _)
     fail_if_success (refine' dupl ?i ?x; (case i => (conv => lhs; whnf)))
     conv => whnf))

def dk (ps : List Str) (g : Str → Dv) : List (Key × Dv) := ps.map fun p => (Sum.inr p, g p)
theorem dk_app {ps qs : List Str} {g : Str → Dv} : dk (ps ++ qs) g = dk ps g ++ dk qs g := List.map_append
theorem dk_keys {ps : List Str} {g : Str → Dv} : (dk ps g).map (·.1) = ps.map Sum.inr := by
  unfold dk
  rw [List.map_map]
  rfl
theorem inr_nodup {ps : List Str} (h : ps.Nodup) : (ps.map (Sum.inr : Str → Key)).Nodup := by
  induction ps with
  | nil => exact List.nodup_nil
  | cons p ps ih =>
    rw [List.nodup_cons] at h
    rw [List.map_cons, List.nodup_cons]
    refine ⟨fun hm => ?_, ih h.2⟩
    obtain ⟨q, hq, e⟩ := List.mem_map.mp hm
    cases e
    exact h.1 hq
theorem dk_not {ps : List Str} {g : Str → Dv} {p : Str} (h : p ∉ ps) : (Sum.inr p : Key) ∉ (dk ps g).map (·.1) := by
  rw [dk_keys]
  intro hm
  obtain ⟨q, hq, e⟩ := List.mem_map.mp hm
  cases e
  exact h hq
theorem valD_dk {ps : List Str} {g : Str → Dv} {p : Str} (nd : ps.Nodup) (h : p ∈ ps) : valD (dk ps g) (.inr p) = some (g p) :=
  valD_mem (by rw [dk_keys]; exact inr_nodup nd) (List.mem_map.mpr ⟨p, h, rfl⟩)
theorem dk_congr {ps : List Str} {g h : Str → Dv} (e : ∀ p ∈ ps, g p = h p) : dk ps g = dk ps h := List.map_congr_left fun p hp => by rw [e p hp]
def upg (g : Str → Dv) (p : Str) (d : Dv) : Str → Dv := fun q => if q = p then d else g q
theorem upg_same {g : Str → Dv} {p : Str} {d : Dv} : upg g p d p = d := if_pos rfl
theorem upg_ne {g : Str → Dv} {p q : Str} {d : Dv} (h : q ≠ p) : upg g p d q = g q := if_neg h
theorem dk_upg {ps : List Str} {g : Str → Dv} {p : Str} {d : Dv} (h : p ∉ ps) : dk ps (upg g p d) = dk ps g := dk_congr fun q hq => upg_ne fun e => h (e ▸ hq)
theorem strsOf_sw (ws : List Str) : strsOf (sw ws) = some ws := by
  induction ws with
  | nil => rfl
  | cons w ws ih =>
    show (strsOf (sw ws)).map (w :: ·) = _
    rw [ih]
    rfl
theorem put_dk {ps : List Str} {g : Str → Dv} {p : Str} {d : Dv} (h : p ∉ ps) : putD (dk ps g) (.inr p) d = dk (ps ++ [p]) (upg g p d) := by
  rw [putD_new (dk_not h), dk_app, dk_upg h]
  show _ = _ ++ [(Sum.inr p, upg g p d p)]
  rw [upg_same]
theorem put_dk2 {ps : List Str} {g : Str → Dv} {p : Str} {d d' : Dv} (h : p ∉ ps) : putD (dk (ps ++ [p]) (upg g p d)) (.inr p) d' = dk (ps ++ [p]) (upg g p d') := by
  rw [dk_app, dk_upg h, dk_app, dk_upg h]
  show putD (_ ++ [(Sum.inr p, upg g p d p)]) _ _ = _ ++ [(Sum.inr p, upg g p d' p)]
  rw [upg_same, upg_same, putD_last (dk_not h)]
theorem val_dk2 {ps : List Str} {g : Str → Dv} {p : Str} {d : Dv} (nd : (ps ++ [p]).Nodup) : valD (dk (ps ++ [p]) (upg g p d)) (.inr p) = some d := by
  rw [valD_dk nd (by simp), upg_same]
theorem dk_len {ps : List Str} {g : Str → Dv} : (dk ps g).length = ps.length := List.length_map _
theorem put_dk3 {ps : List Str} {g : Str → Dv} {p : Str} (h : p ∉ ps) : putD (dk ps g) (.inr p) (g p) = dk (ps ++ [p]) g := by
  rw [put_dk h]
  exact dk_congr fun q _ => by
    by_cases z : q = p
    · rw [z, upg_same]
    · rw [upg_ne z]
theorem y_sort {xs : List Str} {k : Sl → Prop} (l : xs.length < 64) (h : ∀ ys : List Str, ys.Perm xs → k (.ow (.lst (sw ys)))) : sortSD (.lst (sw xs)) k := by
  refine sortSD.mk ?_; unfold sortSDr
  dsimp only
  rw [strsOf_sw]
  exact ⟨l, fun ys p _ => h ys p⟩
def bxW (ps : List Str) (g : Str → Dv) : List Str := pairW ((ps.filter fun p => nz (g p)).map fun p => (p, g p))
theorem bxW_step {ps : List Str} {g : Str → Dv} {p : Str} {d : Dv} (h : p ∉ ps) : bxW (ps ++ [p]) (upg g p d) = bxW ps g ++ (if nz d = true then [p, txD d] else []) := by
  unfold bxW
  rw [List.filter_append, List.map_append]
  have e1 : (ps.filter fun q => nz (upg g p d q)) = ps.filter fun q => nz (g q) := List.filter_congr fun q hq => by rw [upg_ne fun e => h (by rw [← e]; exact hq)]
  have e2 : ((ps.filter fun q => nz (g q)).map fun q => (q, upg g p d q)) = (ps.filter fun q => nz (g q)).map fun q => (q, g q) := List.map_congr_left fun q hq => by
    rw [upg_ne fun e => h (by rw [← e]; exact (List.mem_filter.mp hq).1)]
  rw [e1, e2]
  unfold pairW
  rw [List.flatMap_append]
  congr 1
  cases hz : nz d with
  | true => simp [upg_same, hz]
  | false => simp [upg_same, hz]
theorem TxOk.sm {d : Dv} {n : Nat} (h : TxOk d) : Sm (n + 1) d := by
  cases d <;> first | exact trivial | exact h.elim
theorem sm_dk {ps : List Str} {g : Str → Dv} {n : Nat} (l : ps.length ≤ 1000) (nd : ps.Nodup) (h : ∀ p ∈ ps, Sm n (g p)) : Sm (n + 1) (.dic (dk ps g)) := by
  refine ⟨by rw [dk_len]; exact l, by rw [dk_keys]; exact inr_nodup nd, fun q hq => ?_⟩
  obtain ⟨p, hp, rfl⟩ := List.mem_map.mp hq
  exact h p hp
section
variable {P : Program} {w : World} {K : PySem.W.Frag} {mg : Str → Option Value} {base : Heap} {f aFORMS : Addr} {fd : FuncData}
def F_bm : VSp := fun ds st Q R => ∃ (cl : Cl) (n : Net) (many : Bool), ds = [.obj 0, n.d, .bl many] ∧ st = [cl] ∧ DrC cl ∧ n.Ok ∧ ∀ (ks : List (Key × Dv)) (g : Str → Dv) (ws : List (Str × Str)) cl', (∀ p ∈ n.pls, valD ks (.inr p) = some (g p) ∧ TxOk (g p)) → Sm 2 (.dic ks) → ws.map (·.1) = boxW n g → Wok ws → DrC cl' → Q (.fz (.tup [.dic ks, .lst (ws.map pw)])) [cl']
theorem ok_bm (F : FnP K "_law_box_made" s__law_box_made f fd) (m : mg "_law_box_made" = some (.ref f)) (b : Binds K fd ["draws", "net", "many"] []) (T : Blt mg) (G__law_draw : VD P w K mg base 1 "_law_draw" ["draws", "limit"] F_draw) (G__law_digits : VD P w K mg base 2 "_law_digits" ["draws"] F_digits) : VD P w K mg base 3 "_law_box_made" ["draws", "net", "many"] F_bm := by
  refine' mk_v F m b sc__law_box_made ?der ?hl ?rd
  case hl => rintro ds st Q R ⟨_, _, _, rfl, _⟩; rfl
  case der => exact
    fun cdv A outer s H E hr =>
      (vss_cons (vs_set (i := 3) sc__law_box_made.nd rfl (by first | exact Or.inl rfl | exact Or.inr rfl) ve_dic0)
       (vss_cons (vs_set (i := 4) sc__law_box_made.nd rfl (by first | exact Or.inl rfl | exact Or.inr rfl) (ve_lst (va_c (ve_tup (va_c ve_str (va_c ve_str va_nil))) va_nil)))
       (vss_cons (vs_for (passes_of rfl) rfl (vi_list (ve_ix (hu_of hr) (vpn 1) ve_int (fun _ _ => rfl))) (vg_name (i := 5) sc__law_box_made.nd rfl (by first | exact Or.inl rfl | exact Or.inr rfl))
        (vss_cons (vs_ixF (hu_of hr) (ve_ifJ (vc_cmp (ov_eq hr.units) (ve_callP G__law_draw (hr.mono (by omega)) (takes_of (E := E) rfl rfl rfl rfl) (va_c (vnF 0) (va_c ve_int va_nil))) ve_int (nomark _)) (ve_callP G__law_digits (hr.mono (by omega)) (takes_of (E := E) rfl rfl rfl rfl) (va_c (vnF 0) va_nil)) ve_int) (vpn 3) (vnF 5))
       (vss_one (vs_if (VW.vc (vw_and (vc_val (vnF 2)) (vw_and1 (vc_cmp (ov_eq hr.units) (ve_callP G__law_draw (hr.mono (by omega)) (takes_of (E := E) rfl rfl rfl rfl) (va_c (vnF 0) (va_c ve_int va_nil))) ve_int (nomark _)))))
        (vss_cons (vs_ixF (hu_of hr) ve_str (vpn 3) (vnF 5))
       (vss_one (vs_set (i := 4) sc__law_box_made.nd rfl (by first | exact Or.inl rfl | exact Or.inr rfl) (ve_bin ov_add (vnF 4) (ve_lst (va_c (ve_tup (va_c (vnF 5) (va_c ve_str va_nil))) (va_c (ve_tup (va_c ve_str (va_c ve_str va_nil))) va_nil)))))))
        (vss_one (vs_if (vc_cmp ov_gt (ve_ix (hu_of hr) (vpn 3) (vnF 5) (fun _ _ => rfl)) ve_int (nomark _))
        (vss_one (vs_set (i := 4) sc__law_box_made.nd rfl (by first | exact Or.inl rfl | exact Or.inr rfl) (ve_bin ov_add (vnF 4) (ve_lst (va_c (ve_tup (va_c (vnF 5) (va_c ve_str va_nil))) (va_c (ve_tup (va_c (ve_bt bf_str (vp_val (ve_ix (hu_of hr) (vpn 3) (vnF 5) (fun _ _ => rfl))) (by rfl) T.str (by decide +kernel)) (va_c ve_str va_nil))) va_nil))))))
        vss_nil))))))
       (vss_cons (vs_if (vc_cmp (ov_eq hr.units) (ve_callP G__law_draw (hr.mono (by omega)) (takes_of (E := E) rfl rfl rfl rfl) (va_c (vnF 0) (va_c ve_int va_nil))) ve_int (nomark _))
        (vss_cons (vs_set (i := 6) sc__law_box_made.nd rfl (by first | exact Or.inl rfl | exact Or.inr rfl) ve_dic0)
       (vss_cons (vs_for (passes_of rfl) rfl (vi_list (ve_bf bf_sortS (vp_val (ve_ix (hu_of hr) (vpn 1) ve_int (fun _ _ => rfl))) (by rfl) T.sorted (by decide +kernel))) (vg_name (i := 5) sc__law_box_made.nd rfl (by first | exact Or.inl rfl | exact Or.inr rfl))
        (vss_one (vs_ixF (hu_of hr) (ve_ix (hu_of hr) (vpn 3) (vnF 5) (fun _ _ => rfl)) (vpn 6) (vnF 5))))
       (vss_one (vs_set (i := 3) sc__law_box_made.nd rfl (by first | exact Or.inl rfl | exact Or.inr rfl) (vnF 6)))))
        vss_nil)
       (vss_one (vs_retF (ve_tup (va_c (vnF 3) (va_c (ve_bin ov_add (vnF 4) (ve_lst (va_c (ve_tup (va_c ve_str (va_c ve_str va_nil))) va_nil))) va_nil)))))))))
  case rd =>
    rintro ds st Q R ⟨cl, n, many, rfl, rfl, hd, ok, q⟩
    have hp := ok.lp
    have hnd := ok.ndp
    unfold Net.d
    repeat k_extra "y"
    refine' for_ind (fun rest s => ∃ (rs qs : List Str) (g : Str → Dv) (ws : List (Str × Str)) (c1 : Cl) (x : Sl), rest = sw rs ∧ n.pls = qs ++ rs ∧ (∀ p ∈ qs, TxOk (g p)) ∧ ws.map (·.1) = ("at" : Str) :: bxW qs g ∧ Wok ws ∧ DrC c1 ∧ ws.length + 2 * rs.length ≤ 11 ∧ s = ⟨[.fz (.obj 0), .fz n.d, .fz (.bl many), .ow (.dic (dk qs g)), .ow (.lst (ws.map pw)), x, .un], [c1]⟩)
      ⟨n.pls, [], fun _ => .non, [("at", "word")], cl, _, rfl, rfl, fun p hp => absurd hp (by simp), rfl, fun a ha => by rw [List.mem_singleton.mp ha]; decide, hd, by simp only [List.length_singleton]; omega, rfl⟩ ?hn1 ?hc1
    case hc1 =>
      rintro d rest s ih ⟨rs, qs, g, ws, c1, x, e1, e2, hg, hw, wk, hd1, hl, rfl⟩
      cases rs with
      | nil => cases e1
      | cons p rs =>
      cases e1
      rw [e2] at hnd hp
      simp only [List.length_append, List.length_cons] at hp hl
      have hpn : p ∉ qs := fun hq => (List.nodup_append.mp hnd).2.2 _ hq _ (by simp) rfl
      have hnd2 : (qs ++ [p]).Nodup := by
        rw [show qs ++ p :: rs = qs ++ [p] ++ rs by simp] at hnd
        exact (List.nodup_append.mp hnd).1
      have hp40 := ok.pl p (by rw [e2]; simp)
      have hql : (dk qs g).length ≤ 5 := by rw [dk_len]; omega
      have hqm : ∀ g', (dk (qs ++ [p]) g').length ≤ 5 := fun g' => by rw [dk_len, List.length_append, List.length_singleton]; omega
      refine ⟨trivial, ?_⟩
      repeat k_extra "y"
      refine x_ifJ (fun x s => ∃ (v : Int) (c2 : Cl), 0 ≤ v ∧ v ≤ 10 ^ 30 ∧ DrC c2 ∧ x = .fz (.int v) ∧ s = ⟨[.fz (.obj 0), .fz n.d, .fz (.bl many), .ow (.dic (dk qs g)), .ow (.lst (ws.map pw)), .fz (.str p), .un], [c2]⟩) ?_ fun Q' hJ => ?_
      · rintro x s ⟨v, c2, v0, v1, hd2, rfl, rfl⟩
        have tv : TxOk (.int v) := e30 v0 v1
        have hv : valD (dk (qs ++ [p]) (upg g p (.int v))) (.inr p) = some (.int v) := val_dk2 hnd2
        have hq1 := hqm (upg g p (.int v))
        have hg2 : ∀ d, TxOk d → ∀ q ∈ qs ++ [p], TxOk (upg g p d q) := fun d hd q hq => by
          by_cases z : q = p
          · rw [z, upg_same]; exact hd
          · rw [upg_ne z]
            rcases List.mem_append.mp hq with h | h
            · exact hg q h
            · exact absurd (List.mem_singleton.mp h) z
        repeat k_extra "y"
        rw [put_dk hpn]
        repeat k_extra "y"
        have lv : v.natAbs.log2 < 1920 := e30 v0 v1
        have fin := fun (d : Dv) (td : TxOk d) (c3 : Cl) (h3 : DrC c3) (ws2 : List (Str × Str)) (hw2 : ws2.map (·.1) = ("at" : Str) :: (bxW qs g ++ (if nz d = true then [p, txD d] else []))) (wk2 : Wok ws2) (hl2 : ws2.length ≤ ws.length + 2) =>
          ih _ ⟨rs, qs ++ [p], upg g p d, ws2, c3, .fz (.str p), rfl, by simp [e2], hg2 d td, by rw [hw2, bxW_step hpn], wk2, h3, by omega, rfl⟩
        have zero : ¬ v > 0 → nz (.int v) = false := fun h => by
          have : v = 0 := by omega
          rw [this]; rfl
        have pos : v > 0 → nz (.int v) = true := fun h => by
          show (!decide (v = 0)) = true
          simp
          omega
        have wp : ∀ t : Str, t.length ≤ 1921 → ∀ u : Str, Wok (ws ++ ([(p, "place"), (t, u)] : List (Str × Str))) := fun t ht u => wk.app fun a ha => by
          rcases List.mem_cons.mp ha with rfl | ha
          · show p.length ≤ _
            omega
          · rw [List.mem_singleton.mp ha]
            exact ht
        have wlen : (ws.map pw).length = ws.length := List.length_map _
        cases many with
        | false =>
          repeat k_extra "y"
          refine ib rfl (fun h => ?_) (fun h => ?_)
          · repeat k_extra "y"
            have f := fin (.int v) tv c2 hd2 (ws ++ ([(p, "place"), (toString v, "more")] : List (Str × Str))) (by rw [List.map_append, hw, if_pos (pos h)] <;> rfl) (wp _ (txl lv) _) (by simp)
            simp only [List.map_append] at f
            exact f
          · repeat k_extra "y"
            exact fin (.int v) tv c2 hd2 ws (by rw [hw, if_neg (by rw [zero h]; decide), List.append_nil]) wk (by omega)
        | true =>
          repeat k_extra "y"
          refine ⟨c2, 4, rfl, rfl, hd2, by decide, by decide, fun u c3 u0 u1 hd3 => ?_⟩
          repeat k_extra "y"
          refine ib rfl (fun h => ?_) (fun h => ?_)
          · repeat k_extra "y"
            rw [put_dk2 hpn]
            repeat k_extra "y"
            have f := fin (.str "many") trivial c3 hd3 (ws ++ ([(p, "place"), ("many", "word")] : List (Str × Str))) (by rw [List.map_append, hw] <;> rfl) (wp _ (by decide) _) (by simp)
            simp only [List.map_append] at f
            exact f
          · repeat k_extra "y"
            refine ib rfl (fun h => ?_) (fun h => ?_)
            · repeat k_extra "y"
              have f := fin (.int v) tv c3 hd3 (ws ++ ([(p, "place"), (toString v, "more")] : List (Str × Str))) (by rw [List.map_append, hw, if_pos (pos h)] <;> rfl) (wp _ (txl lv) _) (by simp)
              simp only [List.map_append] at f
              exact f
            · repeat k_extra "y"
              exact fin (.int v) tv c3 hd3 ws (by rw [hw, if_neg (by rw [zero h]; decide), List.append_nil]) wk (by omega)
      · repeat k_extra "y"
        refine ⟨c1, 2, rfl, rfl, hd1, by decide, by decide, fun u c2 u0 u1 hd2 => ?_⟩
        repeat k_extra "y"
        refine ib rfl (fun h => ?_) (fun h => ?_)
        · repeat k_extra "y"
          exact ⟨c2, rfl, rfl, hd2, fun v c3 v0 v1 hd3 => hJ _ _ ⟨v, c3, v0, v1, hd3, rfl, rfl⟩⟩
        · exact x_con <| hJ _ _ ⟨0, c2, by omega, by omega, hd2, rfl, rfl⟩
    case hn1 =>
      rintro s ⟨rs, qs, g, ws, c1, x, e1, e2, hg, hw, wk, hd1, hl, rfl⟩
      have : rs = [] := by cases rs with | nil => rfl | cons _ _ => cases e1
      subst this
      rw [List.append_nil] at e2
      subst e2
      refine ⟨trivial, ?_⟩
      repeat k_extra "y"
      refine ⟨c1, 2, rfl, rfl, hd1, by decide, by decide, fun u c2 u0 u1 hd2 => ?_⟩
      have wlen : (ws.map pw).length = ws.length := List.length_map _
      simp only [List.length_nil] at hl
      have fin : ∀ (ys : List Str), ys.Perm n.pls → Q (.fz (.tup [.dic (dk ys g), .lst ((ws ++ ([("end", "word")] : List (Str × Str))).map pw)])) [c2] := fun ys pm =>
        q _ g _ c2 (fun p hp => ⟨valD_dk (pm.nodup_iff.mpr hnd) (pm.mem_iff.mpr hp), hg p hp⟩) (sm_dk (by rw [pm.length_eq]; omega) (pm.nodup_iff.mpr hnd) fun p hp => (hg p (pm.mem_iff.mp hp)).sm) (by rw [List.map_append, hw] <;> rfl) (wk.app fun a ha => by rw [List.mem_singleton.mp ha]; decide) hd2
      simp only [List.map_append] at fin
      repeat k_extra "y"
      refine ib rfl (fun h => ?_) (fun h => ?_)
      · unfold Net.d
        repeat k_extra "y"
        refine y_sort (by omega) fun ys pm => ?_
        repeat k_extra "y"
        have ynd := pm.nodup_iff.mpr hnd
        refine for_ind (fun rest s => ∃ (rs qs : List Str) (x : Sl), rest = sw rs ∧ ys = qs ++ rs ∧ s = ⟨[.fz (.obj 0), .fz n.d, .fz (.bl many), .ow (.dic (dk n.pls g)), .ow (.lst (ws.map pw)), x, .ow (.dic (dk qs g))], [c2]⟩) ⟨ys, [], _, rfl, rfl, rfl⟩ ?_ ?_
        · rintro s ⟨rs, qs, x, e1, e2, rfl⟩
          have : rs = [] := by cases rs with | nil => rfl | cons _ _ => cases e1
          subst this
          rw [List.append_nil] at e2
          subst e2
          refine ⟨trivial, ?_⟩
          repeat k_extra "y"
          exact fin _ pm
        · rintro d rest s ih ⟨rs, qs, x, e1, e2, rfl⟩
          cases rs with
          | nil => cases e1
          | cons p rs =>
          cases e1
          have pm2 : p ∈ n.pls := pm.mem_iff.mp (by rw [e2]; simp)
          have hv := valD_dk (g := g) hnd pm2
          rw [e2] at ynd
          have hpn : p ∉ qs := fun hq => (List.nodup_append.mp ynd).2.2 _ hq _ (by simp) rfl
          have hql : (dk qs g).length ≤ 5 := by
            have := pm.length_eq
            rw [e2, List.length_append, List.length_cons] at this
            rw [dk_len]
            omega
          refine ⟨trivial, ?_⟩
          repeat k_extra "y"
          refine' ih _ ⟨rs, qs ++ [p], _, rfl, by simp [e2], ?e9⟩
          case e9 =>
            rw [← put_dk3 hpn]
            rfl
      · repeat k_extra "y"
        exact fin _ (List.Perm.refl _)
end
end MK



namespace MK
open PySem L2 VL

local macro_rules | `(tactic| k_extra "sd") => `(tactic| first
  | assumption
  | exact Nat.le_of_ble_eq_true rfl
  | ((try simp only [sz16, List.length_append, List.length_cons, List.length_nil, List.length_map, List.length_replicate]); omega)
  | decide
  | decide +kernel)
local macro_rules | `(tactic| k_extra "sd2") => `(tactic| first
  | trivial
  | ((with_reducible show look _ _ _); first | (refine x_lkV ?_; trivial) | (refine' x_lkF ?e ?k; (case e => rfl); (case k => trivial)) | (refine' x_lkO ?e ?k; (case e => rfl); (case k => trivial)))
  | k_extra "sd")
local macro_rules | `(tactic| k_extra "fc") => `(tactic| fail)
local macro_rules | `(tactic| k_extra "yd") => `(tactic| first
  | ((with_reducible show inD _ _ _); first | (refine' y_inT ?f ?g ?k; (case f => rfl); (case g => rfl)) | (refine' y_inL ?f ?g ?k; (case f => rfl); (case g => rfl)) | refine y_inS ?_ | (refine' y_inD ?e ?k; (case e => rfl)))
  | ((with_reducible show ixD _ _ _); first | (refine' y_ixT ?e ?k; (case e => rfl)) | (refine' y_ixL ?e ?k; (case e => rfl)) | (refine' y_ixT ?e ?k; (case e => assumption)) | (refine' y_ixL ?e ?k; (case e => assumption)) | (refine' y_ixT ?e ?k; (case e => exact atI_0)) | (refine' y_ixT ?e ?k; (case e => exact atI_1)) | (refine' y_ixT ?e ?k; (case e => exact atI_2)) | (refine' y_ixL ?e ?k; (case e => exact atI_0)) | (refine' y_ixD ?e ?e2 ?k; (case e => rfl); (case e2 => assumption)))
  | ((with_reducible show slD _ _ _ _); first | refine y_slL ?_ | refine sl_1 ?_ | refine sl_2 ?_ | (refine' y_slT ?n ?k; (case n => decide)) | (refine' y_slS ?l ?k; (case l => k_extra "sd")))
  | ((with_reducible show eqD _ _ _); refine' y_eq ?e ?k; (case e => rfl))
  | ((with_reducible show neD _ _ _); refine' y_ne ?e ?k; (case e => rfl))
  | ((with_reducible show strD _ _); first | refine y_strS ?_ | (refine' y_strI ?l ?k; (case l => k_extra "sd")))
  | ((with_reducible show allD _ _ _); refine y_allT ?_)
  | ((with_reducible show allD _ _ _); refine' y_all ?e ?k; (case e => first | assumption | rfl))
  | ((with_reducible show setD _ _ _ _); first | (refine' y_setL ?e ?k; (case e => rfl)) | (refine' y_setD ?e ?l ?k; (case e => rfl); (case l => k_extra "sd"))))
local macro_rules | `(tactic| k_extra "y") => `(tactic| first
  | ((with_reducible show And _ _); refine' And.intro ?l ?k; (case l => k_extra "sd2"))
  | ((with_reducible show ite _ _ _); first | refine iT (by first | rfl | decide) ?_ | refine iF (by first | decide) ?_ | (refine' iT ?h ?k; (case h => (simp; done))) | (refine' iF ?h ?k; (case h => (simp; done))) | fail)
  | ((with_reducible show br _ _ _); first | refine brT (by first | rfl | decide) ?_ | refine brF (by first | decide) ?_ | (refine' brT ?h ?k; (case h => (simp; done))) | (refine' brF ?h ?k; (case h => (simp; done))))
  | k_extra "yd"
  | k_extra "fc"
  | (fail_if_success (with_reducible show forV _ _ _ _ _ _ _)
     fail_if_success (with_reducible show compV _ _ _ _ _ _ _ _ _)
     fail_if_success (with_reducible show dcompV _ _ _ _ _ _ _ _ _ _)
     fail_if_success (with_reducible show Exists _)
     fail_if_success (with_reducible show And _ _)
     fail_if_success (refine' dupl ?i ?x; (case i => (conv => lhs; whnf)))
     conv => whnf))

theorem Sm.succ : ∀ {n : Nat} {d : Dv}, Sm n d → Sm (n + 1) d
  | 0, _, h => h.elim
  | _ + 1, .non, _ => trivial
  | _ + 1, .bl _, _ => trivial
  | _ + 1, .int _, _ => trivial
  | _ + 1, .str _, _ => trivial
  | n + 1, .lst ds, h => ⟨h.1, fun x hx => Sm.succ (h.2 x hx)⟩
  | n + 1, .tup ds, h => ⟨h.1, fun x hx => Sm.succ (h.2 x hx)⟩
  | n + 1, .dic ks, h => ⟨h.1, h.2.1, fun x hx => Sm.succ (h.2.2 x hx)⟩
  | _ + 1, .ty _, h => h.elim
  | _ + 1, .raw _, h => h.elim
  | _ + 1, .obj _, h => h.elim
  | _ + 1, .xob _ _ _ _, h => h.elim
  | _ + 1, .scr _, h => h.elim
theorem Sm.mono {n m : Nat} {d : Dv} (h : Sm n d) (l : n ≤ m) : Sm m d := by
  obtain ⟨k, rfl⟩ := Nat.le.dest l
  clear l
  induction k with
  | zero => exact h
  | succ k ih => exact ih.succ
theorem sm_net {n : Net} (ok : n.Ok) : Sm 6 n.d := by
  have hp := ok.lp
  have hs := ok.ls
  refine ⟨by show 4 ≤ 1000; decide, fun x hx => ?_⟩
  have hx : x ∈ [Dv.str "net", .str n.name, .lst (sw n.pls), .lst (n.sts.map rowD)] := hx
  simp only [List.mem_cons, List.not_mem_nil, or_false] at hx
  rcases hx with rfl | rfl | rfl | rfl
  · trivial
  · trivial
  · refine ⟨by rw [List.length_map]; omega, fun y hy => ?_⟩
    obtain ⟨p, _, rfl⟩ := List.mem_map.mp hy
    trivial
  · refine ⟨by rw [List.length_map]; omega, fun y hy => ?_⟩
    obtain ⟨r, hr, rfl⟩ := List.mem_map.mp hy
    obtain ⟨l1, l2, _⟩ := ok.pr r hr
    refine ⟨by show 3 ≤ 1000; decide, fun z hz => ?_⟩
    have hz : z ∈ [Dv.str r.1, .lst (r.2.1.map prD), .lst (r.2.2.map prD)] := hz
    simp only [List.mem_cons, List.not_mem_nil, or_false] at hz
    rcases hz with rfl | rfl | rfl
    · trivial
    · refine ⟨by rw [List.length_map]; omega, fun y hy => ?_⟩
      obtain ⟨p, _, rfl⟩ := List.mem_map.mp hy
      refine ⟨by show 2 ≤ 1000; decide, fun z hz => ?_⟩
      have hz : z ∈ [Dv.str p.1, .int p.2] := hz
      simp only [List.mem_cons, List.not_mem_nil, or_false] at hz
      rcases hz with rfl | rfl <;> trivial
    · refine ⟨by rw [List.length_map]; omega, fun y hy => ?_⟩
      obtain ⟨p, _, rfl⟩ := List.mem_map.mp hy
      refine ⟨by show 2 ≤ 1000; decide, fun z hz => ?_⟩
      have hz : z ∈ [Dv.str p.1, .int p.2] := hz
      simp only [List.mem_cons, List.not_mem_nil, or_false] at hz
      rcases hz with rfl | rfl <;> trivial
theorem Wok.one {t u : Str} (h : t.length ≤ 1921) : Wok [(t, u)] := fun a ha => by rw [List.mem_singleton.mp ha]; exact h
theorem Wok.cons {t u : Str} {ws : List (Str × Str)} (h : t.length ≤ 1921) (g : Wok ws) : Wok ((t, u) :: ws) := fun a ha => by
  rcases List.mem_cons.mp ha with rfl | ha
  · exact h
  · exact g a ha
theorem Wok.nil : Wok [] := fun a ha => absurd ha (by simp)
theorem pairW_snoc {ps : List (Str × Int)} {p : Str × Int} : pairW (vi (ps ++ [p])) = pairW (vi ps) ++ ([p.1, toString p.2] : List Str) := by
  unfold vi pairW
  rw [List.map_append, List.flatMap_append]
  rfl
section
variable {P : Program} {w : World} {K : PySem.W.Frag} {mg : Str → Option Value} {base : Heap} {f aFORMS : Addr} {fd : FuncData}
def F_nmade : VSp := fun ds st Q R => ∃ n : Net, ds = [n.d] ∧ n.Ok ∧ ∀ ws : List (Str × Str), ws.map (·.1) = netW n → Wok ws → ws.length ≤ 140 → Q (.fz (.tup [n.d, .lst (ws.map pw)])) st
theorem ok_nmade (F : FnP K "_law_net_made" s__law_net_made f fd) (m : mg "_law_net_made" = some (.ref f)) (b : Binds K fd ["net"] []) (T : Blt mg) (G__law_copy : VD P w K mg base 15 "_law_copy" ["thing"] (F_copy 14)) : VD P w K mg base 16 "_law_net_made" ["net"] F_nmade := by
  refine' mk_v F m b sc__law_net_made ?der ?hl ?rd
  case hl => rintro ds st Q R ⟨_, rfl, _⟩; rfl
  case der => exact
    fun cdv A outer s H E hr =>
      (vss_cons (vs_set (i := 1) sc__law_net_made.nd rfl (by first | exact Or.inl rfl | exact Or.inr rfl) (ve_lst (va_c (ve_tup (va_c ve_str (va_c ve_str va_nil))) (va_c (ve_tup (va_c (ve_ix (hu_of hr) (vpn 0) ve_int (fun _ _ => rfl)) (va_c ve_str va_nil))) va_nil))))
       (vss_cons (vs_for (passes_of rfl) rfl (vi_list (ve_ix (hu_of hr) (vpn 0) ve_int (fun _ _ => rfl))) (vg_name (i := 2) sc__law_net_made.nd rfl (by first | exact Or.inl rfl | exact Or.inr rfl))
        (vss_one (vs_set (i := 1) sc__law_net_made.nd rfl (by first | exact Or.inl rfl | exact Or.inr rfl) (ve_bin ov_add (vnF 1) (ve_lst (va_c (ve_tup (va_c ve_str (va_c ve_str va_nil))) (va_c (ve_tup (va_c (vnF 2) (va_c ve_str va_nil))) va_nil)))))))
       (vss_cons (vs_for (passes_of rfl) rfl (vi_list (ve_ix (hu_of hr) (vpn 0) ve_int (fun _ _ => rfl))) (vg_tup (n := 3) rfl (vgs_cons (vg_name (i := 3) sc__law_net_made.nd rfl (by first | exact Or.inl rfl | exact Or.inr rfl)) (vgs_cons (vg_name (i := 4) sc__law_net_made.nd rfl (by first | exact Or.inl rfl | exact Or.inr rfl)) (vgs_cons (vg_name (i := 5) sc__law_net_made.nd rfl (by first | exact Or.inl rfl | exact Or.inr rfl)) vgs_nil))))
        (vss_cons (vs_set (i := 1) sc__law_net_made.nd rfl (by first | exact Or.inl rfl | exact Or.inr rfl) (ve_bin ov_add (vnF 1) (ve_lst (va_c (ve_tup (va_c ve_str (va_c ve_str va_nil))) (va_c (ve_tup (va_c (vnF 3) (va_c ve_str va_nil))) (va_c (ve_tup (va_c ve_str (va_c ve_str va_nil))) va_nil))))))
       (vss_cons (vs_for (passes_of rfl) rfl (vi_list (vnF 4)) (vg_tup (n := 2) rfl (vgs_cons (vg_name (i := 2) sc__law_net_made.nd rfl (by first | exact Or.inl rfl | exact Or.inr rfl)) (vgs_cons (vg_name (i := 6) sc__law_net_made.nd rfl (by first | exact Or.inl rfl | exact Or.inr rfl)) vgs_nil)))
        (vss_one (vs_set (i := 1) sc__law_net_made.nd rfl (by first | exact Or.inl rfl | exact Or.inr rfl) (ve_bin ov_add (vnF 1) (ve_lst (va_c (ve_tup (va_c (vnF 2) (va_c ve_str va_nil))) (va_c (ve_tup (va_c (ve_bt bf_str (vpn 6) (by rfl) T.str (by decide +kernel)) (va_c ve_str va_nil))) va_nil)))))))
       (vss_cons (vs_expr (ve_mu PySem.F.plainAttrs_list PySem.F.slot_list_append PySem.F.type_list_append mu_append (vpn 1) (va_c (ve_tup (va_c ve_str (va_c ve_str va_nil))) va_nil)))
       (vss_one (vs_for (passes_of rfl) rfl (vi_list (vnF 5)) (vg_tup (n := 2) rfl (vgs_cons (vg_name (i := 2) sc__law_net_made.nd rfl (by first | exact Or.inl rfl | exact Or.inr rfl)) (vgs_cons (vg_name (i := 6) sc__law_net_made.nd rfl (by first | exact Or.inl rfl | exact Or.inr rfl)) vgs_nil)))
        (vss_one (vs_set (i := 1) sc__law_net_made.nd rfl (by first | exact Or.inl rfl | exact Or.inr rfl) (ve_bin ov_add (vnF 1) (ve_lst (va_c (ve_tup (va_c (vnF 2) (va_c ve_str va_nil))) (va_c (ve_tup (va_c (ve_bt bf_str (vpn 6) (by rfl) T.str (by decide +kernel)) (va_c ve_str va_nil))) va_nil))))))))))))
       (vss_one (vs_retF (ve_tup (va_c (ve_callP G__law_copy (hr.mono (by omega)) (takes_of (E := E) rfl rfl rfl rfl) (va_c (vnF 0) va_nil)) (va_c (ve_bin ov_add (vnF 1) (ve_lst (va_c (ve_tup (va_c ve_str (va_c ve_str va_nil))) va_nil))) va_nil))))))))
  case rd =>
    rintro ds st Q R ⟨n, rfl, ok, q⟩
    have hp := ok.lp
    have hs := ok.ls
    unfold Net.d
    repeat k_extra "y"
    refine' for_ind (fun rest s => ∃ (rs qs : List Str) (ws : List (Str × Str)) (x : Sl), rest = sw rs ∧ n.pls = qs ++ rs ∧ ws.map (·.1) = (["net", n.name] : List Str) ++ qs.flatMap (fun p => (["place", p] : List Str)) ∧ Wok ws ∧ ws.length + 2 * rs.length ≤ 12 ∧ s = ⟨[.fz n.d, .ow (.lst (ws.map pw)), x, .un, .un, .un, .un], st⟩) ⟨n.pls, [], [("net", "word"), (n.name, "name")], _, rfl, rfl, rfl, .cons (by decide) (.one (by have := ok.nl; omega)), by simp only [List.length_cons, List.length_nil]; omega, rfl⟩ ?hn1 ?hc1
    case hc1 =>
      rintro d rest s ih ⟨rs, qs, ws, x, e1, e2, hw, wk, hl, rfl⟩
      cases rs with
      | nil => cases e1
      | cons p rs =>
      cases e1
      have hp40 := ok.pl p (by rw [e2]; simp)
      simp only [List.length_cons] at hl
      have wlen : (ws.map pw).length = ws.length := List.length_map _
      refine ⟨trivial, ?_⟩
      repeat k_extra "y"
      have f := ih _ ⟨rs, qs ++ [p], ws ++ ([("place", "word"), (p, "name")] : List (Str × Str)), .fz (.str p), rfl, by simp [e2], by rw [List.map_append, hw, List.flatMap_append, List.append_assoc] <;> rfl, wk.app (.cons (by decide) (.one (by omega))), by rw [List.length_append]; simp only [List.length_cons, List.length_nil]; omega, rfl⟩
      simp only [List.map_append] at f
      exact f
    case hn1 =>
      rintro s ⟨rs, qs, ws, x, e1, e2, hw, wk, hl, rfl⟩
      have : rs = [] := by cases rs with | nil => rfl | cons _ _ => cases e1
      subst this
      rw [List.append_nil] at e2
      rw [← e2] at hw
      refine ⟨trivial, ?_⟩
      unfold Net.d
      repeat k_extra "y"
      refine' for_ind (fun rest s => ∃ (rs qs : List (Str × List (Str × Int) × List (Str × Int))) (ws2 : List (Str × Str)) (x y z u v : Sl), rest = rs.map rowD ∧ n.sts = qs ++ rs ∧ ws2.map (·.1) = ws.map (·.1) ++ qs.flatMap rowW ∧ Wok ws2 ∧ ws2.length + 24 * rs.length ≤ 12 + 24 * 5 ∧ s = ⟨[.fz n.d, .ow (.lst (ws2.map pw)), x, y, z, u, v], st⟩) ⟨n.sts, [], ws, _, _, _, _, _, rfl, rfl, by simp, wk, by simp only [List.length_nil] at hl; omega, rfl⟩ ?hn2 ?hc2
      case hn2 =>
        rintro s ⟨rs, qs, ws2, x, y, z, u, v, e1, e3, hw2, wk2, hl2, rfl⟩
        have : rs = [] := by cases rs with | nil => rfl | cons _ _ => cases e1
        subst this
        rw [List.append_nil] at e3
        subst e3
        have wlen : (ws2.map pw).length = ws2.length := List.length_map _
        simp only [List.length_nil] at hl2
        refine ⟨trivial, ?_⟩
        repeat k_extra "y"
        refine ⟨n.d, rfl, (sm_net ok).mono (by decide), ?_⟩
        repeat k_extra "y"
        have f := q (ws2 ++ ([("end", "word")] : List (Str × Str))) (by rw [List.map_append, hw2, hw] <;> rfl) (wk2.app (.one (by decide))) (by rw [List.length_append]; simp only [List.length_cons, List.length_nil]; omega)
        simp only [List.map_append] at f
        exact f
      case hc2 =>
        rintro d rest s ih ⟨rs, qs, ws2, x, y, z, u, v, e1, e3, hw2, wk2, hl2, rfl⟩
        cases rs with
        | nil => cases e1
        | cons r rs =>
        cases e1
        have mr : r ∈ n.sts := by rw [e3]; simp
        obtain ⟨l1, l2, hr⟩ := ok.pr r mr
        have r40 := ok.sl r mr
        simp only [List.length_cons] at hl2
        have wlen : (ws2.map pw).length = ws2.length := List.length_map _
        refine ⟨trivial, ?_⟩
        unfold rowD
        repeat k_extra "y"
        have w3 : ∃ w3 : List (Str × Str), w3 = ws2 ++ ([("step", "word"), (r.1, "name"), ("takes", "word")] : List (Str × Str)) := ⟨_, rfl⟩
        obtain ⟨w3, e4⟩ := w3
        have m3 : w3.map (·.1) = ws2.map (·.1) ++ (["step", r.1, "takes"] : List Str) := by rw [e4, List.map_append]; rfl
        have l3 : w3.length = ws2.length + 3 := by rw [e4, List.length_append]; rfl
        have k3 : Wok w3 := by rw [e4]; exact wk2.app (.cons (by decide) (.cons (by omega) (.one (by decide))))
        refine' for_ind (fun rest s => ∃ (rs qs : List (Str × Int)) (w4 : List (Str × Str)) (x y : Sl), rest = rs.map prD ∧ r.2.1 = qs ++ rs ∧ w4.map (·.1) = w3.map (·.1) ++ pairW (vi qs) ∧ Wok w4 ∧ w4.length = w3.length + 2 * qs.length ∧ s = ⟨[.fz n.d, .ow (.lst (w4.map pw)), x, .fz (.str r.1), .fz (.lst (r.2.1.map prD)), .fz (.lst (r.2.2.map prD)), y], st⟩) ⟨r.2.1, [], w3, _, _, rfl, rfl, by simp [vi, pairW], k3, by simp, by rw [e4]; simp only [List.map_append] <;> rfl⟩ ?hn3 ?hc3
        case hc3 =>
          rintro d rest s ih3 ⟨rs3, qs3, w4, x, y, e1, e5, hw4, wk4, hl4, rfl⟩
          cases rs3 with
          | nil => cases e1
          | cons p rs3 =>
          cases e1
          obtain ⟨p0, p1, p2⟩ := hr p (.inl (by rw [e5]; simp))
          have lp := log6 ⟨p0, p1⟩
          rw [e5] at l1
          simp only [List.length_append, List.length_cons] at l1
          have wlen4 : (w4.map pw).length = w4.length := List.length_map _
          refine ⟨trivial, ?_⟩
          unfold prD
          repeat k_extra "y"
          have f := ih3 _ ⟨rs3, qs3 ++ [p], w4 ++ ([(p.1, "name"), (toString p.2, "number")] : List (Str × Str)), .fz (.str p.1), .fz (.int p.2), rfl, by simp [e5], by rw [List.map_append, hw4, pairW_snoc, List.append_assoc] <;> rfl, wk4.app (.cons (by omega) (.one (txl lp))), by simp only [List.length_append, List.length_cons, List.length_nil]; omega, rfl⟩
          simp only [List.map_append] at f
          exact f
        case hn3 =>
          rintro s ⟨rs3, qs3, w4, x, y, e1, e5, hw4, wk4, hl4, rfl⟩
          have : rs3 = [] := by cases rs3 with | nil => rfl | cons _ _ => cases e1
          subst this
          rw [List.append_nil] at e5
          rw [← e5] at hw4 hl4
          have wlen4 : (w4.map pw).length = w4.length := List.length_map _
          refine ⟨trivial, ?_⟩
          repeat k_extra "y"
          have w5 : ∃ w5 : List (Str × Str), w5 = w4 ++ ([("gives", "word")] : List (Str × Str)) := ⟨_, rfl⟩
          obtain ⟨w5, e6⟩ := w5
          have m5 : w5.map (·.1) = w4.map (·.1) ++ (["gives"] : List Str) := by rw [e6, List.map_append]; rfl
          have l5 : w5.length = w4.length + 1 := by rw [e6, List.length_append]; rfl
          have k5 : Wok w5 := by rw [e6]; exact wk4.app (.one (by decide))
          refine' for_ind (fun rest s => ∃ (rs qs : List (Str × Int)) (w6 : List (Str × Str)) (x y : Sl), rest = rs.map prD ∧ r.2.2 = qs ++ rs ∧ w6.map (·.1) = w5.map (·.1) ++ pairW (vi qs) ∧ Wok w6 ∧ w6.length = w5.length + 2 * qs.length ∧ s = ⟨[.fz n.d, .ow (.lst (w6.map pw)), x, .fz (.str r.1), .fz (.lst (r.2.1.map prD)), .fz (.lst (r.2.2.map prD)), y], st⟩) ⟨r.2.2, [], w5, _, _, rfl, rfl, by simp [vi, pairW], k5, by simp, by rw [e6]; simp only [List.map_append] <;> rfl⟩ ?hn4 ?hc4
          case hc4 =>
            rintro d rest s ih4 ⟨rs3, qs3, w6, x, y, e1, e7, hw6, wk6, hl6, rfl⟩
            cases rs3 with
            | nil => cases e1
            | cons p rs3 =>
            cases e1
            obtain ⟨p0, p1, p2⟩ := hr p (.inr (by rw [e7]; simp))
            have lp := log6 ⟨p0, p1⟩
            rw [e7] at l2
            simp only [List.length_append, List.length_cons] at l2
            have wlen6 : (w6.map pw).length = w6.length := List.length_map _
            refine ⟨trivial, ?_⟩
            unfold prD
            repeat k_extra "y"
            have f := ih4 _ ⟨rs3, qs3 ++ [p], w6 ++ ([(p.1, "name"), (toString p.2, "number")] : List (Str × Str)), .fz (.str p.1), .fz (.int p.2), rfl, by simp [e7], by rw [List.map_append, hw6, pairW_snoc, List.append_assoc] <;> rfl, wk6.app (.cons (by omega) (.one (txl lp))), by simp only [List.length_append, List.length_cons, List.length_nil]; omega, rfl⟩
            simp only [List.map_append] at f
            exact f
          case hn4 =>
            rintro s ⟨rs3, qs3, w6, x, y, e1, e7, hw6, wk6, hl6, rfl⟩
            have : rs3 = [] := by cases rs3 with | nil => rfl | cons _ _ => cases e1
            subst this
            rw [List.append_nil] at e7
            rw [← e7] at hw6 hl6
            refine ⟨trivial, ?_⟩
            repeat k_extra "y"
            exact ih _ ⟨rs, qs ++ [r], w6, _, _, _, _, _, rfl, by simp [e3], by rw [hw6, m5, hw4, m3, hw2, List.flatMap_append]; simp [rowW], wk6, by omega, rfl⟩
end
end MK



namespace MK
open PySem L2 VL

local macro_rules | `(tactic| k_extra "sd") => `(tactic| first
  | assumption
  | exact Nat.le_of_ble_eq_true rfl
  | ((try simp only [sz16, List.length_append, List.length_cons, List.length_nil, List.length_map, List.length_replicate]); omega)
  | decide
  | decide +kernel)
local macro_rules | `(tactic| k_extra "sd2") => `(tactic| first
  | trivial
  | ((with_reducible show look _ _ _); first | (refine x_lkV ?_; trivial) | (refine' x_lkF ?e ?k; (case e => rfl); (case k => trivial)) | (refine' x_lkO ?e ?k; (case e => rfl); (case k => trivial)))
  | k_extra "sd")
local macro_rules | `(tactic| k_extra "fc") => `(tactic| fail)
local macro_rules | `(tactic| k_extra "yd") => `(tactic| first
  | ((with_reducible show inD _ _ _); first | (refine' y_inT ?f ?g ?k; (case f => rfl); (case g => rfl)) | (refine' y_inL ?f ?g ?k; (case f => rfl); (case g => rfl)) | refine y_inS ?_ | (refine' y_inD ?e ?k; (case e => rfl)))
  | ((with_reducible show ixD _ _ _); first | (refine' y_ixT ?e ?k; (case e => rfl)) | (refine' y_ixL ?e ?k; (case e => rfl)) | (refine' y_ixT ?e ?k; (case e => assumption)) | (refine' y_ixL ?e ?k; (case e => assumption)) | (refine' y_ixT ?e ?k; (case e => exact atI_0)) | (refine' y_ixT ?e ?k; (case e => exact atI_1)) | (refine' y_ixT ?e ?k; (case e => exact atI_2)) | (refine' y_ixL ?e ?k; (case e => exact atI_0)) | (refine' y_ixD ?e ?e2 ?k; (case e => rfl); (case e2 => assumption)))
  | ((with_reducible show slD _ _ _ _); first | refine y_slL ?_ | refine sl_1 ?_ | refine sl_2 ?_ | (refine' y_slT ?n ?k; (case n => decide)) | (refine' y_slS ?l ?k; (case l => k_extra "sd")))
  | ((with_reducible show eqD _ _ _); refine' y_eq ?e ?k; (case e => rfl))
  | ((with_reducible show neD _ _ _); refine' y_ne ?e ?k; (case e => rfl))
  | ((with_reducible show strD _ _); first | refine y_strS ?_ | (refine' y_strI ?l ?k; (case l => k_extra "sd")))
  | ((with_reducible show allD _ _ _); refine y_allT ?_)
  | ((with_reducible show allD _ _ _); refine' y_all ?e ?k; (case e => first | assumption | rfl))
  | ((with_reducible show setD _ _ _ _); first | (refine' y_setL ?e ?k; (case e => rfl)) | (refine' y_setD ?e ?l ?k; (case e => rfl); (case l => k_extra "sd"))))
local macro_rules | `(tactic| k_extra "y") => `(tactic| first
  | ((with_reducible show And _ _); refine' And.intro ?l ?k; (case l => k_extra "sd2"))
  | ((with_reducible show ite _ _ _); first | refine iT (by first | rfl | decide) ?_ | refine iF (by first | decide) ?_ | (refine' iT ?h ?k; (case h => (simp; done))) | (refine' iF ?h ?k; (case h => (simp; done))) | fail)
  | ((with_reducible show br _ _ _); first | refine brT (by first | rfl | decide) ?_ | refine brF (by first | decide) ?_ | (refine' brT ?h ?k; (case h => (simp; done))) | (refine' brF ?h ?k; (case h => (simp; done))))
  | k_extra "yd"
  | k_extra "fc"
  | (fail_if_success (with_reducible show forV _ _ _ _ _ _ _)
     fail_if_success (with_reducible show compV _ _ _ _ _ _ _ _ _)
     fail_if_success (with_reducible show dcompV _ _ _ _ _ _ _ _ _ _)
     fail_if_success (with_reducible show Exists _)
     fail_if_success (with_reducible show And _ _)
     fail_if_success (refine' dupl ?i ?x; (case i => (conv => lhs; whnf)))
     conv => whnf))

def Lf (f : Str) : Prop := f = "net" ∨ f = "marking" ∨ f = "box" ∨ f = "whole" ∨ f = "amount" ∨ f = "number" ∨ f = "place" ∨ f = "step" ∨ f = "name"
instance {f : Str} : Decidable (Lf f) := by unfold Lf; infer_instance
/-- how many words something plain may have -/
def lfB (s : Str) : Nat := if s = "net" then 140 else 12
theorem lfB_net : lfB "net" = 140 := by kernel_rfl
theorem lfB_o {s : Str} (h : s ≠ "net") : lfB s = 12 := if_neg h
theorem netW_len {n : Net} (ok : n.Ok) : (netW n).length ≤ 140 := by
  have hp := ok.lp
  have hs := ok.ls
  have h2 : (n.sts.flatMap rowW).length ≤ 24 * n.sts.length := by
    have key : ∀ l : List (Str × List (Str × Int) × List (Str × Int)), (∀ r ∈ l, r ∈ n.sts) → (l.flatMap rowW).length ≤ 24 * l.length := by
      intro l
      induction l with
      | nil => intro _; simp
      | cons r l ih =>
        intro h
        have h1 := rowW_len ok (h r (by simp))
        have h2 := ih fun r hr => h r (by simp [hr])
        rw [List.flatMap_cons, List.length_append, List.length_cons]
        omega
    exact key _ fun r h => h
  unfold netW
  simp only [List.length_append, List.length_flatMap, List.length_cons, List.length_nil, List.map_const', List.sum_replicate_nat] at h2 ⊢
  omega
theorem boxW_len {n : Net} (ok : n.Ok) {g : Str → Dv} : (boxW n g).length ≤ 12 := by
  have hp := ok.lp
  have h1 : (n.pls.filter fun p => nz (g p)).length ≤ n.pls.length := List.length_filter_le _ _
  unfold boxW
  simp only [List.length_append, pairW_len, List.length_map, List.length_cons, List.length_nil]
  omega
theorem amountW_len {a b : Int} : (amountW a b).length ≤ 4 := by
  have := wholeW_len (i := a)
  unfold amountW
  rw [List.length_append]
  split
  · simp only [List.length_cons, List.length_nil]; omega
  · simp only [List.length_nil]; omega
theorem atI_sw {ws : List Str} {v : Int} (h : 0 ≤ v) (h2 : v < (ws.length : Nat)) : ∃ s, s ∈ ws ∧ atI (sw ws) v = some (.str s) := by
  obtain ⟨k, rfl⟩ : ∃ k : Nat, v = (k : Int) := ⟨v.toNat, by omega⟩
  have hk : k < ws.length := by omega
  exact ⟨ws[k], List.getElem_mem hk, atI_nat (by simp [hk])⟩
theorem atI_rows {n : Net} {v : Int} (h : 0 ≤ v) (h2 : v < (n.sts.length : Nat)) : ∃ r, r ∈ n.sts ∧ atI (n.sts.map rowD) v = some (rowD r) := by
  obtain ⟨k, rfl⟩ : ∃ k : Nat, v = (k : Int) := ⟨v.toNat, by omega⟩
  have hk : k < n.sts.length := by omega
  exact ⟨n.sts[k], List.getElem_mem hk, atI_nat (by simp [hk])⟩
section
variable {P : Program} {w : World} {K : PySem.W.Frag} {mg : Str → Option Value} {base : Heap} {f aFORMS : Addr} {fd : FuncData}
def F_pm : VSp := fun ds st Q R => ∃ (cl : Cl) (n : Net) (f : Str), ds = [.obj 0, n.d, .str f] ∧ st = [cl] ∧ DrC cl ∧ n.Ok ∧ Lf f ∧ ∀ (thing : Dv) (ws : List (Str × Str)) cl', W n.d (.leaf f) thing (ws.map (·.1)) → Wok ws → ws.length ≤ lfB f → Sm 7 thing → DrC cl' → Q (.fz (.tup [thing, .lst (ws.map pw)])) [cl']
theorem ok_pm (F : FnP K "_law_plain_made" s__law_plain_made f fd) (m : mg "_law_plain_made" = some (.ref f)) (b : Binds K fd ["draws", "net", "form"] []) (T : Blt mg) (G__law_draw : VD P w K mg base 1 "_law_draw" ["draws", "limit"] F_draw) (G__law_digits : VD P w K mg base 2 "_law_digits" ["draws"] F_digits) (G__law_whole_made : VD P w K mg base 3 "_law_whole_made" ["draws"] F_wm) (G__law_amount_made : VD P w K mg base 4 "_law_amount_made" ["draws"] F_am)
    (G__law_box_made : VD P w K mg base 3 "_law_box_made" ["draws", "net", "many"] F_bm) (G__law_net_made : VD P w K mg base 16 "_law_net_made" ["net"] F_nmade) (G__law_names : VD P w K mg base 2 "_law_names" ["draws", "many"] F_names) : VD P w K mg base 17 "_law_plain_made" ["draws", "net", "form"] F_pm := by
  refine' mk_v F m b sc__law_plain_made ?der ?hl ?rd
  case hl => rintro ds st Q R ⟨_, _, _, rfl, _⟩; rfl
  case der => exact
    fun cdv A outer s H E hr =>
      (vss_cons (vs_if (vc_cmp (ov_eq hr.units) (vnF 2) ve_str (nomark _))
        (vss_one (vs_retF (ve_callP G__law_net_made (hr.mono (by omega)) (takes_of (E := E) rfl rfl rfl rfl) (va_c (vnF 1) va_nil))))
        vss_nil)
       (vss_cons (vs_if (vc_in (hu_of hr) (vnF 2) (vp_val (ve_tup (va_c ve_str (va_c ve_str va_nil)))) (by rfl))
        (vss_one (vs_retF (ve_callP G__law_box_made (hr.mono (by omega)) (takes_of (E := E) rfl rfl rfl rfl) (va_c (vnF 0) (va_c (vnF 1) (va_c (ve_cmp (ov_eq hr.units) (vnF 2) ve_str (nomark _)) va_nil))))))
        vss_nil)
       (vss_cons (vs_if (vc_cmp (ov_eq hr.units) (vnF 2) ve_str (nomark _))
        (vss_one (vs_retF (ve_callP G__law_whole_made (hr.mono (by omega)) (takes_of (E := E) rfl rfl rfl rfl) (va_c (vnF 0) va_nil))))
        vss_nil)
       (vss_cons (vs_if (vc_cmp (ov_eq hr.units) (vnF 2) ve_str (nomark _))
        (vss_one (vs_retF (ve_callP G__law_amount_made (hr.mono (by omega)) (takes_of (E := E) rfl rfl rfl rfl) (va_c (vnF 0) va_nil))))
        vss_nil)
       (vss_cons (vs_if (vc_cmp (ov_eq hr.units) (vnF 2) ve_str (nomark _))
        (vss_cons (vs_set (i := 3) sc__law_plain_made.nd rfl (by first | exact Or.inl rfl | exact Or.inr rfl) (ve_callP G__law_digits (hr.mono (by omega)) (takes_of (E := E) rfl rfl rfl rfl) (va_c (vnF 0) va_nil)))
       (vss_one (vs_retF (ve_tup (va_c (vnF 3) (va_c (ve_lst (va_c (ve_tup (va_c (ve_bt bf_str (vpn 3) (by rfl) T.str (by decide +kernel)) (va_c ve_str va_nil))) va_nil)) va_nil))))))
        vss_nil)
       (vss_cons (vs_if (vc_cmp (ov_eq hr.units) (vnF 2) ve_str (nomark _))
        (vss_one (vs_set (i := 4) sc__law_plain_made.nd rfl (by first | exact Or.inl rfl | exact Or.inr rfl) (ve_ix (hu_of hr) (vp_val (ve_ix (hu_of hr) (vpn 1) ve_int (fun _ _ => rfl))) (ve_callP G__law_draw (hr.mono (by omega)) (takes_of (E := E) rfl rfl rfl rfl) (va_c (vnF 0) (va_c (ve_bf bf_len (vp_val (ve_ix (hu_of hr) (vpn 1) ve_int (fun _ _ => rfl))) (by rfl) T.len (by decide +kernel)) va_nil))) (fun _ _ => rfl))))
        (vss_one (vs_if (vc_cmp (ov_eq hr.units) (vnF 2) ve_str (nomark _))
        (vss_one (vs_set (i := 4) sc__law_plain_made.nd rfl (by first | exact Or.inl rfl | exact Or.inr rfl) (ve_ix (hu_of hr) (vp_val (ve_ix (hu_of hr) (vp_val (ve_ix (hu_of hr) (vpn 1) ve_int (fun _ _ => rfl))) (ve_callP G__law_draw (hr.mono (by omega)) (takes_of (E := E) rfl rfl rfl rfl) (va_c (vnF 0) (va_c (ve_bf bf_len (vp_val (ve_ix (hu_of hr) (vpn 1) ve_int (fun _ _ => rfl))) (by rfl) T.len (by decide +kernel)) va_nil))) (fun _ _ => rfl))) ve_int (fun _ _ => rfl))))
        (vss_one (vs_set (i := 4) sc__law_plain_made.nd rfl (by first | exact Or.inl rfl | exact Or.inr rfl) (ve_ix (hu_of hr) (vp_val (ve_callP G__law_names (hr.mono (by omega)) (takes_of (E := E) rfl rfl rfl rfl) (va_c (vnF 0) (va_c ve_int va_nil)))) ve_int (fun _ _ => rfl)))))))
       (vss_one (vs_retF (ve_tup (va_c (vnF 4) (va_c (ve_lst (va_c (ve_tup (va_c (vnF 4) (va_c (vnF 2) va_nil))) va_nil)) va_nil)))))))))))
  case rd =>
    rintro ds st Q R ⟨cl, n, f, rfl, rfl, hd, ok, hf, q⟩
    have hp := ok.lp
    have hs := ok.ls
    rcases hf with rfl | rfl | rfl | rfl | rfl | rfl | rfl | rfl | rfl
    · repeat k_extra "y"
      exact ⟨n, rfl, ok, fun ws hw wk hl => q _ ws cl (by rw [hw]; exact .net n ok) wk (by rw [lfB_net]; exact hl) ((sm_net ok).mono (by decide)) hd⟩
    · repeat k_extra "y"
      refine ⟨cl, n, _, rfl, rfl, hd, ok, fun ks g ws c2 hg sm hw wk hd2 => q _ ws c2 (by rw [hw]; exact .box n ok _ (.inl rfl) ks g rfl hg) wk ?_ (sm.mono (by decide)) hd2⟩
      have := boxW_len ok (g := g)
      rw [← hw, List.length_map] at this
      rw [lfB_o (by decide)]
      exact this
    · repeat k_extra "y"
      refine ⟨cl, n, _, rfl, rfl, hd, ok, fun ks g ws c2 hg sm hw wk hd2 => q _ ws c2 (by rw [hw]; exact .box n ok _ (.inr rfl) ks g rfl hg) wk ?_ (sm.mono (by decide)) hd2⟩
      have := boxW_len ok (g := g)
      rw [← hw, List.length_map] at this
      rw [lfB_o (by decide)]
      exact this
    · repeat k_extra "y"
      refine ⟨cl, rfl, rfl, hd, fun i ws c2 hi hw wk hd2 => q _ ws c2 (by rw [hw]; exact .whole i hi) wk ?_ trivial hd2⟩
      have := wholeW_len (i := i)
      rw [← hw, List.length_map] at this
      rw [lfB_o (by decide)]
      omega
    · repeat k_extra "y"
      refine ⟨cl, rfl, rfl, hd, fun a c ws c2 hi hi2 hw wk hd2 => q _ ws c2 (by rw [hw]; exact .amount a c hi hi2) wk ?_ ⟨by show 2 ≤ 1000; decide, fun x hx => ?_⟩ hd2⟩
      · have := amountW_len (a := a) (b := c)
        rw [← hw, List.length_map] at this
        rw [lfB_o (by decide)]
        omega
      · have hx : x ∈ [Dv.int a, .int c] := hx
        simp only [List.mem_cons, List.not_mem_nil, or_false] at hx
        rcases hx with rfl | rfl <;> trivial
    · repeat k_extra "y"
      refine ⟨cl, rfl, rfl, hd, fun v c2 v0 v1 hd2 => ?_⟩
      have lv := e30 v0 v1
      repeat k_extra "y"
      exact q (.int v) [(toString v, "number")] c2 (.text _ _ (.inr (.inr (.inr rfl))) lv) (.one (txl lv)) (by rw [lfB_o (by decide)]; show 1 ≤ 12; decide) trivial hd2
    · unfold Net.d
      repeat k_extra "y"
      have hl0 := ok.lp0
      refine ⟨cl, _, rfl, rfl, hd, by simp only [List.length_map]; omega, by simp only [List.length_map]; omega, fun v c2 v0 v1 hd2 => ?_⟩
      simp only [List.length_map] at v1
      obtain ⟨s, hs2, e⟩ := atI_sw v0 v1
      repeat k_extra "y"
      exact q (.str s) [(s, "place")] c2 (.text _ (.str s) (.inl rfl) trivial) (.one (by have := ok.pl s hs2; omega)) (by rw [lfB_o (by decide)]; show 1 ≤ 12; decide) trivial hd2
    · unfold Net.d
      repeat k_extra "y"
      have hl0 := ok.ls0
      refine ⟨cl, _, rfl, rfl, hd, by simp only [List.length_map]; omega, by simp only [List.length_map]; omega, fun v c2 v0 v1 hd2 => ?_⟩
      simp only [List.length_map] at v1
      obtain ⟨r, hr, e⟩ := atI_rows v0 v1
      repeat k_extra "y"
      unfold rowD
      repeat k_extra "y"
      exact q (.str r.1) [(r.1, "step")] c2 (.text _ (.str r.1) (.inr (.inl rfl)) trivial) (.one (by have := ok.sl r hr; omega)) (by rw [lfB_o (by decide)]; show 1 ≤ 12; decide) trivial hd2
    · repeat k_extra "y"
      refine ⟨cl, 1, rfl, rfl, hd, by decide, fun names c2 hl nd h40 hd2 => ?_⟩
      cases names with
      | nil => cases hl
      | cons s names =>
      repeat k_extra "y"
      exact q (.str s) [(s, "name")] c2 (.text _ (.str s) (.inr (.inr (.inl rfl))) trivial) (.one (by have := h40 s (by simp); omega)) (by rw [lfB_o (by decide)]; show 1 ≤ 12; decide) trivial hd2
end
end MK



namespace MK
open PySem L2 VL

local macro_rules | `(tactic| k_extra "sd") => `(tactic| first
  | assumption
  | exact Nat.le_of_ble_eq_true rfl
  | ((try simp only [sz16, List.length_append, List.length_cons, List.length_nil, List.length_map, List.length_replicate]); omega)
  | decide
  | decide +kernel)
local macro_rules | `(tactic| k_extra "sd2") => `(tactic| first
  | trivial
  | ((with_reducible show look _ _ _); first | (refine x_lkV ?_; trivial) | (refine' x_lkF ?e ?k; (case e => rfl); (case k => trivial)) | (refine' x_lkO ?e ?k; (case e => rfl); (case k => trivial)))
  | k_extra "sd")
local macro_rules | `(tactic| k_extra "fc") => `(tactic| fail)
local macro_rules | `(tactic| k_extra "yd") => `(tactic| first
  | ((with_reducible show inD _ _ _); first | (refine' y_inT ?f ?g ?k; (case f => rfl); (case g => rfl)) | (refine' y_inL ?f ?g ?k; (case f => rfl); (case g => rfl)) | refine y_inS ?_ | (refine' y_inD ?e ?k; (case e => rfl)))
  | ((with_reducible show ixD _ _ _); first | (refine' y_ixT ?e ?k; (case e => rfl)) | (refine' y_ixL ?e ?k; (case e => rfl)) | (refine' y_ixT ?e ?k; (case e => assumption)) | (refine' y_ixL ?e ?k; (case e => assumption)) | (refine' y_ixT ?e ?k; (case e => exact atI_0)) | (refine' y_ixT ?e ?k; (case e => exact atI_1)) | (refine' y_ixT ?e ?k; (case e => exact atI_2)) | (refine' y_ixL ?e ?k; (case e => exact atI_0)) | (refine' y_ixD ?e ?e2 ?k; (case e => rfl); (case e2 => assumption)))
  | ((with_reducible show slD _ _ _ _); first | refine y_slL ?_ | refine sl_1 ?_ | refine sl_2 ?_ | (refine' y_slT ?n ?k; (case n => decide)) | (refine' y_slS ?l ?k; (case l => k_extra "sd")))
  | ((with_reducible show eqD _ _ _); refine' y_eq ?e ?k; (case e => rfl))
  | ((with_reducible show neD _ _ _); refine' y_ne ?e ?k; (case e => rfl))
  | ((with_reducible show strD _ _); first | refine y_strS ?_ | (refine' y_strI ?l ?k; (case l => k_extra "sd")))
  | ((with_reducible show allD _ _ _); refine y_allT ?_)
  | ((with_reducible show allD _ _ _); refine' y_all ?e ?k; (case e => first | assumption | rfl))
  | ((with_reducible show setD _ _ _ _); first | (refine' y_setL ?e ?k; (case e => rfl)) | (refine' y_setD ?e ?l ?k; (case e => rfl); (case l => k_extra "sd"))))
local macro_rules | `(tactic| k_extra "y") => `(tactic| first
  | ((with_reducible show And _ _); refine' And.intro ?l ?k; (case l => k_extra "sd2"))
  | ((with_reducible show ite _ _ _); first | refine iT (by first | rfl | decide) ?_ | refine iF (by first | decide) ?_ | (refine' iT ?h ?k; (case h => (simp; done))) | (refine' iF ?h ?k; (case h => (simp; done))) | fail)
  | ((with_reducible show br _ _ _); first | refine brT (by first | rfl | decide) ?_ | refine brF (by first | decide) ?_ | (refine' brT ?h ?k; (case h => (simp; done))) | (refine' brF ?h ?k; (case h => (simp; done))))
  | k_extra "yd"
  | k_extra "fc"
  | (fail_if_success (with_reducible show forV _ _ _ _ _ _ _)
     fail_if_success (with_reducible show compV _ _ _ _ _ _ _ _ _)
     fail_if_success (with_reducible show dcompV _ _ _ _ _ _ _ _ _ _)
     fail_if_success (with_reducible show Exists _)
     fail_if_success (with_reducible show And _ _)
     fail_if_success (refine' dupl ?i ?x; (case i => (conv => lhs; whnf)))
     conv => whnf))

local macro_rules | `(tactic| k_extra "sd2") => `(tactic| omega)
local macro_rules | `(tactic| k_extra "sd") => `(tactic| omega)
def altB : Fm → Bool
  | .leaf s => decide (s = "marking" ∨ s = "box")
  | .none => true
  | .tuple _ _ => true
  | _ => false
mutual
def gf : Fm → Bool
  | .leaf s => decide (Lf s)
  | .none => true
  | .or fs => decide (fs.length ≠ 0) && (decide (fs.length ≤ 100) && (fs.all altB && (decide ((fs.map fwS).Nodup) && gfs fs)))
  | .list f => gf f
  | .table w f => decide (w = "step" ∨ w = "place") && gf f
  | .tuple t fs => decide (fs.length ≤ 100 ∧ t.length ≤ 100) && gfs fs
  | .pair fs => decide (fs.length ≤ 100) && gfs fs
def gfs : List Fm → Bool
  | [] => true
  | f :: fs => gf f && gfs fs
end
mutual
def bnd : Fm → Nat
  | .leaf s => lfB s
  | .none => 1
  | .or fs => bnds fs
  | .list f => 5 * bnd f + 1
  | .table _ f => 5 * (1 + bnd f)
  | .tuple _ fs => 1 + bnds fs
  | .pair fs => bnds fs
def bnds : List Fm → Nat
  | [] => 0
  | f :: fs => bnd f + bnds fs
end
theorem fm_congr {α β : Type} {l : List α} {f g : α → List β} (h : ∀ q ∈ l, f q = g q) : l.flatMap f = l.flatMap g := by
  induction l with
  | nil => rfl
  | cons a l ih => rw [List.flatMap_cons, List.flatMap_cons, h a (by simp), ih fun q hq => h q (by simp [hq])]
theorem gf_mem {fs : List Fm} {f : Fm} (h : gfs fs = true) (hf : f ∈ fs) : gf f = true := by
  induction fs with
  | nil => cases hf
  | cons g fs ih =>
    rw [gfs, Bool.and_eq_true] at h
    rcases List.mem_cons.mp hf with rfl | hf
    · exact h.1
    · exact ih h.2 hf
theorem bnd_mem {fs : List Fm} {f : Fm} (hf : f ∈ fs) : bnd f ≤ bnds fs := by
  induction fs with
  | nil => cases hf
  | cons g fs ih =>
    rw [bnds]
    rcases List.mem_cons.mp hf with rfl | hf
    · omega
    · have := ih hf
      omega
theorem fw_alt {f : Fm} (h : altB f = true) : ∃ u, fwS f = some u := by
  cases f <;> first | exact ⟨_, rfl⟩ | cases h
theorem word_alt {nd thing : Dv} {f : Fm} {ws : List Str} (h : altB f = true) (hW : W nd f thing ws) : wordOf thing = fwS f := by
  cases hW with
  | net n ok => exact absurd h (by decide)
  | box n ok f hf ks g e hg => rfl
  | whole i hi => exact absurd h (by decide)
  | amount a b h1 h2 => exact absurd h (by decide)
  | text f d hf ht =>
    rcases hf with rfl | rfl | rfl | rfl <;> exact absurd h (by decide)
  | none => rfl
  | or => cases h
  | tuple t fs things ws h => rfl
  | pair => cases h
  | table => cases h
  | list => cases h
theorem filter_fw {fs : List Fm} {i : Nat} {f : Fm} {u : Str} (nd : (fs.map fwS).Nodup) (hf : fs[i]? = some f) (hu : fwS f = some u) : ∃ rest, fs.filter (fun f => decide (fwS f = some u)) = f :: rest := by
  induction fs generalizing i with
  | nil => cases hf
  | cons g fs ih =>
    rw [List.map_cons, List.nodup_cons] at nd
    cases i with
    | zero =>
      cases hf
      rw [List.filter_cons, if_pos (by simp [hu])]
      exact ⟨_, rfl⟩
    | succ i =>
      have hf : fs[i]? = some f := by simpa using hf
      have : fwS g ≠ some u := fun e => nd.1 (List.mem_map.mpr ⟨f, List.mem_of_getElem? hf, by rw [hu, e]⟩)
      rw [List.filter_cons, if_neg (by simpa using this)]
      exact ih nd.2 hf
theorem Ws.snoc {nd : Dv} {fs : List Fm} {ds : List Dv} {vs : List Str} (h : Ws nd fs ds vs) : ∀ {f : Fm} {d : Dv} {ws : List Str}, W nd f d ws → Ws nd (fs ++ [f]) (ds ++ [d]) (vs ++ ws) := by
  intro f d ws g
  exact match h with
  | .nil => by
    have := Ws.cons g .nil
    rw [List.append_nil] at this
    exact this
  | .cons h1 r => by
    have := Ws.cons h1 (Ws.snoc r g)
    rw [← List.append_assoc] at this
    exact this
theorem Wl.snoc {nd : Dv} {f : Fm} {ds : List Dv} {vs : List Str} (h : Wl nd f ds vs) : ∀ {d : Dv} {ws : List Str}, W nd f d ws → Wl nd f (ds ++ [d]) (vs ++ ws) := by
  intro d ws g
  exact match h with
  | .nil => by
    have := Wl.cons g .nil
    rw [List.append_nil] at this
    exact this
  | .cons h1 r => by
    have := Wl.cons h1 (Wl.snoc r g)
    rw [← List.append_assoc] at this
    exact this
theorem Wt.mk {nd : Dv} {f : Fm} {ks : List (Key × Dv)} {g : Str → Dv} {wf : Str → List Str} {ps : List Str} (h : ∀ p ∈ ps, valD ks (.inr p) = some (g p) ∧ W nd f (g p) (wf p)) : Wt nd f ks ps (ps.flatMap fun p => p :: wf p) := by
  induction ps with
  | nil => exact .nil
  | cons p ps ih =>
    have h1 := h p (by simp)
    exact .cons h1.1 h1.2 (ih fun q hq => h q (by simp [hq]))
theorem atI_or {x : Dv} {fs : List Fm} {v : Int} (h : 0 ≤ v) (h2 : v < (fs.length : Nat)) : ∃ (i : Nat) (f : Fm), fs[i]? = some f ∧ atI (x :: fmDs fs) (1 + v) = some (fmD f) := by
  obtain ⟨k, rfl⟩ : ∃ k : Nat, v = (k : Int) := ⟨v.toNat, by omega⟩
  have hk : k < fs.length := by omega
  refine ⟨k, fs[k], by simp [hk], ?_⟩
  rw [show (1 + (k : Int)) = ((k + 1 : Nat) : Int) by omega]
  exact atI_nat (by rw [fmDs_map]; simp [hk])
section
variable {P : Program} {w : World} {K : PySem.W.Frag} {mg : Str → Option Value} {base : Heap} {f aFORMS : Addr} {fd : FuncData}
def F_made (k : Nat) : VSp := fun ds st Q R => ∃ (cl : Cl) (n : Net) (fm : Fm), ds = [.obj 0, n.d, fmD fm] ∧ st = [cl] ∧ DrC cl ∧ n.Ok ∧ dep fm ≤ k ∧ gf fm = true ∧ bnd fm ≤ 1000000 ∧
  ∀ (thing : Dv) (ws : List (Str × Str)) cl', W n.d fm thing (ws.map (·.1)) → Wok ws → ws.length ≤ bnd fm → Sm (dep fm + 6) thing → DrC cl' → Q (.fz (.tup [thing, .lst (ws.map pw)])) [cl']
theorem ok_made0 (F : FnP K "_law_made" s__law_made f fd) (m : mg "_law_made" = some (.ref f)) (b : Binds K fd ["draws", "net", "form"] []) : VD P w K mg base 18 "_law_made" ["draws", "net", "form"] (F_made 0) :=
  mk_v0 F m b sc__law_made fun ds st Q R ⟨_, _, fm, _, _, _, _, h, _⟩ => by
    have := dep_pos fm
    omega
theorem ok_made {k : Nat} (F : FnP K "_law_made" s__law_made f fd) (m : mg "_law_made" = some (.ref f)) (b : Binds K fd ["draws", "net", "form"] []) (T : Blt mg) (G__law_draw : VD P w K mg base 1 "_law_draw" ["draws", "limit"] F_draw) (G__law_plain_made : VD P w K mg base 17 "_law_plain_made" ["draws", "net", "form"] F_pm)
    (G__law_made : VD P w K mg base (k + 18) "_law_made" ["draws", "net", "form"] (F_made k)) : VD P w K mg base (k + 19) "_law_made" ["draws", "net", "form"] (F_made (k + 1)) := by
  refine' mk_v F m b sc__law_made ?der ?hl ?rd
  case hl => rintro ds st Q R ⟨_, _, _, rfl, _⟩; rfl
  case der => exact
    fun cdv A outer s H E hr =>
      (vss_cons (vs_if (vc_val (ve_bn bn_isi (va_c (vnF 2) (va_c (ve_bty (T := "str") (by rfl) T.str (by decide +kernel)) va_nil)) (by rfl) T.isinstance (by decide +kernel)))
        (vss_one (vs_retF (ve_callP G__law_plain_made (hr.mono (by omega)) (takes_of (E := E) rfl rfl rfl rfl) (va_c (vnF 0) (va_c (vnF 1) (va_c (vnF 2) va_nil))))))
        vss_nil)
       (vss_cons (vs_if (vc_cmp (ov_eq hr.units) (ve_ix (hu_of hr) (vpn 2) ve_int (fun _ _ => rfl)) ve_str (nomark _))
        (vss_one (vs_retF (ve_tup (va_c ve_non (va_c (ve_lst (va_c (ve_tup (va_c ve_str (va_c ve_str va_nil))) va_nil)) va_nil)))))
        vss_nil)
       (vss_cons (vs_if (vc_cmp (ov_eq hr.units) (ve_ix (hu_of hr) (vpn 2) ve_int (fun _ _ => rfl)) ve_str (nomark _))
        (vss_one (vs_retF (ve_callP G__law_made (hr.mono (by omega)) (takes_of (E := E) rfl rfl rfl rfl) (va_c (vnF 0) (va_c (vnF 1) (va_c (ve_ix (hu_of hr) (vpn 2) (ve_bin ov_add ve_int (ve_callP G__law_draw (hr.mono (by omega)) (takes_of (E := E) rfl rfl rfl rfl) (va_c (vnF 0) (va_c (ve_bin ov_sub (ve_bf bf_len (vpn 2) (by rfl) T.len (by decide +kernel)) ve_int) va_nil)))) (fun _ _ => rfl)) va_nil))))))
        vss_nil)
       (vss_cons (vs_set (i := 3) sc__law_made.nd rfl (by first | exact Or.inl rfl | exact Or.inr rfl) (ve_lst va_nil))
       (vss_cons (vs_set (i := 4) sc__law_made.nd rfl (by first | exact Or.inl rfl | exact Or.inr rfl) (ve_lst va_nil))
       (vss_cons (vs_if (vc_cmp (ov_eq hr.units) (ve_ix (hu_of hr) (vpn 2) ve_int (fun _ _ => rfl)) ve_str (nomark _))
        (vss_cons (vs_for (passes_of rfl) rfl (vi_range1 (by rfl) T.range (va_c (ve_ix (hu_of hr) (vp_val (ve_lst (va_c ve_int (va_c ve_int (va_c ve_int (va_c ve_int va_nil)))))) (ve_callP G__law_draw (hr.mono (by omega)) (takes_of (E := E) rfl rfl rfl rfl) (va_c (vnF 0) (va_c ve_int va_nil))) (fun _ _ => rfl)) va_nil)) (vg_name (i := 5) sc__law_made.nd rfl (by first | exact Or.inl rfl | exact Or.inr rfl))
        (vss_cons (vs_asg (ve_callP G__law_made (hr.mono (by omega)) (takes_of (E := E) rfl rfl rfl rfl) (va_c (vnF 0) (va_c (vnF 1) (va_c (ve_ix (hu_of hr) (vpn 2) ve_int (fun _ _ => rfl)) va_nil)))) (vg_tup (n := 2) rfl (vgs_cons (vg_name (i := 6) sc__law_made.nd rfl (by first | exact Or.inl rfl | exact Or.inr rfl)) (vgs_cons (vg_name (i := 7) sc__law_made.nd rfl (by first | exact Or.inl rfl | exact Or.inr rfl)) vgs_nil))))
       (vss_cons (vs_expr (ve_mu PySem.F.plainAttrs_list PySem.F.slot_list_append PySem.F.type_list_append mu_append (vpn 3) (va_c (vnF 6) va_nil)))
       (vss_one (vs_set (i := 4) sc__law_made.nd rfl (by first | exact Or.inl rfl | exact Or.inr rfl) (ve_bin ov_add (vnF 4) (vnF 7)))))))
       (vss_one (vs_retF (ve_tup (va_c (vnF 3) (va_c (ve_bin ov_add (vnF 4) (ve_lst (va_c (ve_tup (va_c ve_str (va_c ve_str va_nil))) va_nil))) va_nil))))))
        vss_nil)
       (vss_cons (vs_if (vc_cmp (ov_eq hr.units) (ve_ix (hu_of hr) (vpn 2) ve_int (fun _ _ => rfl)) ve_str (nomark _))
        (vss_cons (vs_set (i := 8) sc__law_made.nd rfl (by first | exact Or.inl rfl | exact Or.inr rfl) ve_dic0)
       (vss_cons (vs_for (passes_of rfl) rfl (vi_list (ve_if (vc_cmp (ov_eq hr.units) (ve_ix (hu_of hr) (vpn 2) ve_int (fun _ _ => rfl)) ve_str (nomark _)) (ve_lc (own := [("step", 10)]) (.nm 10) rfl sc__law_made.nd (vi_list (ve_ix (hu_of hr) (vpn 1) ve_int (fun _ _ => rfl))) (blkOk_by (own := [("step", 10)]) (N := ["draws", "net", "form", "things", "words", "k", "thing", "more", "found", "name", "step", "part"]) (sc := (defScope s__law_made)) (by decide +kernel)) (fun _ _ _ _ _ => (pg_name (i := 10) sc__law_made.nd rfl (by first | exact Or.inl rfl | exact Or.inr rfl))) (fun _ _ _ _ _ => vts_nil) (fun _ _ _ _ _ => (ve_ix (hu_of hr) (vpn 10) ve_int (fun _ _ => rfl)))) (ve_ix (hu_of hr) (vpn 1) ve_int (fun _ _ => rfl)))) (vg_name (i := 9) sc__law_made.nd rfl (by first | exact Or.inl rfl | exact Or.inr rfl))
        (vss_cons (vs_asg (ve_callP G__law_made (hr.mono (by omega)) (takes_of (E := E) rfl rfl rfl rfl) (va_c (vnF 0) (va_c (vnF 1) (va_c (ve_ix (hu_of hr) (vpn 2) ve_int (fun _ _ => rfl)) va_nil)))) (vg_tup (n := 2) rfl (vgs_cons (vg_name (i := 6) sc__law_made.nd rfl (by first | exact Or.inl rfl | exact Or.inr rfl)) (vgs_cons (vg_name (i := 7) sc__law_made.nd rfl (by first | exact Or.inl rfl | exact Or.inr rfl)) vgs_nil))))
       (vss_cons (vs_ixF (hu_of hr) (vnF 6) (vpn 8) (vnF 9))
       (vss_one (vs_set (i := 4) sc__law_made.nd rfl (by first | exact Or.inl rfl | exact Or.inr rfl) (ve_bin ov_add (ve_bin ov_add (vnF 4) (ve_lst (va_c (ve_tup (va_c (vnF 9) (va_c ve_str va_nil))) va_nil))) (vnF 7)))))))
       (vss_one (vs_retF (ve_tup (va_c (vnF 8) (va_c (vnF 4) va_nil)))))))
        vss_nil)
       (vss_cons (vs_if (vc_cmp (ov_eq hr.units) (ve_ix (hu_of hr) (vpn 2) ve_int (fun _ _ => rfl)) ve_str (nomark _))
        (vss_cons (vs_set (i := 3) sc__law_made.nd rfl (by first | exact Or.inl rfl | exact Or.inr rfl) (ve_lst (va_c (ve_ix (hu_of hr) (vpn 2) ve_int (fun _ _ => rfl)) va_nil)))
       (vss_one (vs_set (i := 4) sc__law_made.nd rfl (by first | exact Or.inl rfl | exact Or.inr rfl) (ve_lst (va_c (ve_tup (va_c (ve_ix (hu_of hr) (vpn 2) ve_int (fun _ _ => rfl)) (va_c ve_str va_nil))) va_nil)))))
        vss_nil)
       (vss_cons (vs_for (passes_of rfl) rfl (vi_tup (ve_if (vc_cmp (ov_eq hr.units) (ve_ix (hu_of hr) (vpn 2) ve_int (fun _ _ => rfl)) ve_str (nomark _)) (ve_slice (vpn 2) (vo_some ve_int) vo_none) (ve_slice (vpn 2) (vo_some ve_int) vo_none))) (vg_name (i := 11) sc__law_made.nd rfl (by first | exact Or.inl rfl | exact Or.inr rfl))
        (vss_cons (vs_asg (ve_callP G__law_made (hr.mono (by omega)) (takes_of (E := E) rfl rfl rfl rfl) (va_c (vnF 0) (va_c (vnF 1) (va_c (vnF 11) va_nil)))) (vg_tup (n := 2) rfl (vgs_cons (vg_name (i := 6) sc__law_made.nd rfl (by first | exact Or.inl rfl | exact Or.inr rfl)) (vgs_cons (vg_name (i := 7) sc__law_made.nd rfl (by first | exact Or.inl rfl | exact Or.inr rfl)) vgs_nil))))
       (vss_cons (vs_expr (ve_mu PySem.F.plainAttrs_list PySem.F.slot_list_append PySem.F.type_list_append mu_append (vpn 3) (va_c (vnF 6) va_nil)))
       (vss_one (vs_set (i := 4) sc__law_made.nd rfl (by first | exact Or.inl rfl | exact Or.inr rfl) (ve_bin ov_add (vnF 4) (vnF 7)))))))
       (vss_one (vs_retF (ve_tup (va_c (ve_bt bf_tuple (vpn 3) (by rfl) T.tuple (by decide +kernel)) (va_c (vnF 4) va_nil))))))))))))))
  case rd =>
    rintro ds st Q R ⟨cl, n, fm, rfl, rfl, hd, ok, hdp, hg, hb, q⟩
    have hp := ok.lp
    have hs := ok.ls
    cases fm with
    | leaf f =>
      unfold fmD
      repeat k_extra "y"
      rw [gf, decide_eq_true_eq] at hg
      exact ⟨cl, n, f, rfl, rfl, hd, ok, hg, q⟩
    | none =>
      unfold fmD
      repeat k_extra "y"
      exact q .non [("none", "word")] cl .none (.one (by decide)) (by decide) trivial hd
    | or fs =>
      rw [dep] at hdp
      rw [bnd] at hb
      rw [gf] at hg
      simp only [Bool.and_eq_true, decide_eq_true_eq] at hg
      obtain ⟨h0, h1, h2, h3, h4⟩ := hg
      have e0 : fmD (.or fs) = .tup (.str "or" :: fmDs fs) := rfl
      have hlen : (Dv.str "or" :: fmDs fs).length = fs.length + 1 := by rw [fmDs_map]; simp
      rw [e0]
      repeat k_extra "y"
      refine ⟨cl, _, rfl, rfl, hd, by rw [hlen]; omega, by rw [hlen]; omega, fun v c2 v0 v1 hd2 => ?_⟩
      rw [hlen] at v1
      obtain ⟨i, f, hf, hat⟩ := atI_or (x := .str "or") v0 (show v < (fs.length : Nat) by omega)
      have hm := List.mem_of_getElem? hf
      have d1 := dep_mem hm
      have b1 := bnd_mem hm
      repeat k_extra "y"
      refine ⟨c2, n, f, rfl, rfl, hd2, ok, by omega, gf_mem h4 hm, by omega, fun thing ws c3 hW wk hl hS hd3 => ?_⟩
      obtain ⟨u, hu⟩ := fw_alt (List.all_eq_true.mp h2 f hm)
      obtain ⟨rest, hr⟩ := filter_fw h3 hf hu
      exact q thing ws c3 (.or fs rest f thing _ u (fun g hg => fw_alt (List.all_eq_true.mp h2 g hg)) h1 (by rw [word_alt (List.all_eq_true.mp h2 f hm) hW, hu]) hr hW) wk (by rw [bnd]; omega) (hS.mono (by rw [dep]; omega)) hd3
    | list f =>
      rw [dep] at hdp q
      rw [bnd] at hb q
      rw [gf] at hg
      unfold fmD
      repeat k_extra "y"
      refine ⟨cl, 4, rfl, rfl, hd, by decide, by decide, fun v c2 v0 v1 hd2 => ?_⟩
      have : ∃ L : Nat, L ≤ 5 ∧ atI [Dv.int 0, .int 1, .int 2, .int 5] v = some (.int (L : Int)) := by
        have : v = 0 ∨ v = 1 ∨ v = 2 ∨ v = 3 := by omega
        rcases this with rfl | rfl | rfl | rfl
        · exact ⟨0, by decide, rfl⟩
        · exact ⟨1, by decide, rfl⟩
        · exact ⟨2, by decide, rfl⟩
        · exact ⟨5, by decide, rfl⟩
      obtain ⟨L, L5, hL⟩ := this
      repeat k_extra "y"
      refine' for_ind (fun rest s => ∃ (k m : Nat) (ts : List Dv) (ws : List (Str × Str)) (c1 : Cl) (x y z : Sl), rest = rangeD (k : Int) m ∧ ts.length + m = L ∧ Wl n.d f ts (ws.map (·.1)) ∧ Wok ws ∧ ws.length + m * bnd f ≤ 5 * bnd f ∧ (∀ t ∈ ts, Sm (dep f + 6) t) ∧ DrC c1 ∧ s = ⟨[.fz (.obj 0), .fz n.d, .fz (.tup [.str "list", fmD f]), .ow (.lst ts), .ow (.lst (ws.map pw)), x, y, z, .un, .un, .un, .un], [c1]⟩)
        ⟨0, L, [], [], c2, _, _, _, rfl, by simp, .nil, .nil, by simp only [List.length_nil, Nat.zero_add]; exact Nat.mul_le_mul_right _ L5, fun t ht => absurd ht (by simp), hd2, rfl⟩ ?hn1 ?hc1
      case hn1 =>
        rintro s ⟨k, m, ts, ws, c1, x, y, z, e1, e2, hW, wk, hl, hS, hd1, rfl⟩
        have wlen : (ws.map pw).length = ws.length := List.length_map _
        have hl : ws.length ≤ 5 * bnd f := by
          have : 0 ≤ m * bnd f := Nat.zero_le _
          omega
        refine ⟨trivial, ?_⟩
        repeat k_extra "y"
        have g := q (.lst ts) (ws ++ ([("end", "word")] : List (Str × Str))) c1 (by rw [List.map_append]; exact .list f ts _ hW) (wk.app (.one (by decide))) (by rw [List.length_append]; simp only [List.length_singleton]; omega) ⟨by omega, fun t ht => hS t ht⟩ hd1
        simp only [List.map_append] at g
        exact g
      case hc1 =>
        rintro d rest s ih ⟨k, m, ts, ws, c1, x, y, z, e1, e2, hW, wk, hl, hS, hd1, rfl⟩
        cases m with
        | zero => cases e1
        | succ m =>
        rw [rangeD_succ] at e1
        cases e1
        rw [Nat.succ_mul] at hl
        have wlen : (ws.map pw).length = ws.length := List.length_map _
        have hl5 : ws.length ≤ 5 * bnd f := by
          have : 0 ≤ m * bnd f := Nat.zero_le _
          omega
        refine ⟨trivial, ?_⟩
        repeat k_extra "y"
        refine ⟨c1, n, f, rfl, rfl, hd1, ok, by omega, hg, by omega, fun thing w2 c3 hW2 wk2 hl2 hS2 hd3 => ?_⟩
        have wlen2 : (w2.map pw).length = w2.length := List.length_map _
        repeat k_extra "y"
        have g := ih _ ⟨k + 1, m, ts ++ [thing], ws ++ w2, c3, .fz (.int (k : Nat)), .fz thing, .fz (.lst (w2.map pw)), rfl, by simp; omega, by rw [List.map_append]; exact hW.snoc hW2, wk.app wk2, by rw [List.length_append]; omega, fun t ht => (List.mem_append.mp ht).elim (hS t) fun h => by rw [List.mem_singleton.mp h]; exact hS2, hd3, rfl⟩
        simp only [List.map_append] at g
        exact g
    | table wh f =>
      rw [dep] at hdp q
      rw [bnd] at hb q
      rw [gf] at hg
      simp only [Bool.and_eq_true, decide_eq_true_eq] at hg
      obtain ⟨hwh, hg⟩ := hg
      unfold fmD
      have key : ∀ (names : List Str), ((wh = "step" ∧ names = n.stn) ∨ (wh = "place" ∧ names = n.pls)) → names.length ≤ 5 ∧ names.Nodup ∧ ∀ p ∈ names, p.length ≤ 40 := by
        intro names h
        rcases h with ⟨_, rfl⟩ | ⟨_, rfl⟩
        · refine ⟨by unfold Net.stn; rw [List.length_map]; exact hs, ok.nds, fun p hp => ?_⟩
          obtain ⟨r, hr, rfl⟩ := List.mem_map.mp hp
          exact ok.sl r hr
        · exact ⟨hp, ok.ndp, ok.pl⟩
      have fin : ∀ (names : List Str) (g : Str → Dv) (wf : Str → List (Str × Str)) (ws : List (Str × Str)) (c1 : Cl), ((wh = "step" ∧ names = n.stn) ∨ (wh = "place" ∧ names = n.pls)) → (∀ p ∈ names, W n.d f (g p) ((wf p).map (·.1)) ∧ Sm (dep f + 6) (g p)) → ws.map (·.1) = names.flatMap (fun p => p :: (wf p).map (·.1)) → Wok ws → ws.length ≤ 5 * (1 + bnd f) → DrC c1 → Q (.fz (.tup [.dic (dk names g), .lst (ws.map pw)])) [c1] := by
        intro names g wf ws c1 hn h1 h2 h3 h4 h5
        obtain ⟨kl, kn, _⟩ := key names hn
        refine q _ ws c1 ?_ h3 h4 (sm_dk (by omega) kn fun p hp => (h1 p hp).2) h5
        rw [h2]
        exact .table n ok wh f names _ _ rfl hn (Wt.mk (g := g) (wf := fun p => (wf p).map (·.1)) fun p hp => ⟨valD_dk kn hp, (h1 p hp).1⟩)
      rcases hwh with rfl | rfl
      · have hnm : ((Str.ofString "step" = "step" ∧ n.stn = n.stn) ∨ (Str.ofString "step" = "place" ∧ n.stn = n.pls)) := .inl ⟨rfl, rfl⟩
        obtain ⟨kl, kn, k40⟩ := key n.stn hnm
        unfold Net.d
        repeat k_extra "y"
        refine' comp_ind (fun rest acc s => ∃ rs qs, rest = rs.map rowD ∧ n.sts = qs ++ rs ∧ acc = sw (qs.map (·.1)) ∧ s = ⟨[.fz (.obj 0), .fz n.d, .fz (.tup [.str "table", .str "step", fmD f]), .ow (.lst []), .ow (.lst []), .un, .un, .un, .ow (.dic []), .un, .un, .un], [cl]⟩) ⟨n.sts, [], rfl, rfl, rfl, rfl⟩ ?hnC ?hcC
        case hcC =>
          rintro d ds acc s ih ⟨rs, qs, e1, e2, rfl, rfl⟩
          cases rs with
          | nil => cases e1
          | cons p rs =>
          cases e1
          have hl : (sw (qs.map (·.1))).length ≤ 5 := by rw [e2] at hs; simp at hs ⊢; omega
          refine ⟨trivial, ?_⟩
          unfold rowD
          repeat k_extra "y"
          refine ⟨by have := sz16; omega, ?_⟩
          exact ih _ _ ⟨rs, qs ++ [p], rfl, by simp [e2], by simp only [sw, List.map_append, List.map_map] <;> rfl, rfl⟩
        rintro acc s ⟨rs, qs, e1, e2, rfl, rfl⟩
        have : rs = [] := by cases rs with | nil => rfl | cons _ _ => cases e1
        subst this
        rw [List.append_nil] at e2
        rw [← e2]
        refine ⟨trivial, ?_⟩
        refine' for_ind (fun rest s => ∃ (rs qs : List Str) (g : Str → Dv) (wf : Str → List (Str × Str)) (ws : List (Str × Str)) (c1 : Cl) (x y z : Sl), rest = sw rs ∧ n.stn = qs ++ rs ∧ (∀ p ∈ qs, W n.d f (g p) ((wf p).map (·.1)) ∧ Sm (dep f + 6) (g p)) ∧ ws.map (·.1) = qs.flatMap (fun p => p :: (wf p).map (·.1)) ∧ Wok ws ∧ ws.length + rs.length * (1 + bnd f) ≤ 5 * (1 + bnd f) ∧ DrC c1 ∧ s = ⟨[.fz (.obj 0), .fz n.d, .fz (.tup [.str "table", .str "step", fmD f]), .ow (.lst []), .ow (.lst (ws.map pw)), .un, x, y, .ow (.dic (dk qs g)), z, .un, .un], [c1]⟩)
          ⟨n.stn, [], fun _ => .non, fun _ => [], [], cl, _, _, _, rfl, rfl, fun p hp => absurd hp (by simp), rfl, .nil, by simp only [List.length_nil, Nat.zero_add]; exact Nat.mul_le_mul_right _ kl, hd, rfl⟩ ?hnTstep ?hcTstep
        case hnTstep =>
          rintro s ⟨rs, qs, g, wf, ws, c1, x, y, z, e1, e2, hW, hw, wk, hl, hd1, rfl⟩
          have : rs = [] := by cases rs with | nil => rfl | cons _ _ => cases e1
          subst this
          rw [List.append_nil] at e2
          subst e2
          refine ⟨trivial, ?_⟩
          repeat k_extra "y"
          exact fin _ g wf ws c1 hnm hW hw wk (by simp only [List.length_nil, Nat.zero_mul] at hl; omega) hd1
        case hcTstep =>
          rintro d rest s ih ⟨rs, qs, g, wf, ws, c1, x, y, z, e1, e2, hW, hw, wk, hl, hd1, rfl⟩
          cases rs with
          | nil => cases e1
          | cons p rs =>
          cases e1
          rw [e2] at kn kl
          simp only [List.length_append, List.length_cons] at kl
          have hpn : p ∉ qs := fun hq => (List.nodup_append.mp kn).2.2 _ hq _ (by simp) rfl
          have p40 := k40 p (by rw [e2]; simp)
          have hql : (dk qs g).length ≤ 5 := by rw [dk_len]; omega
          rw [List.length_cons, Nat.succ_mul] at hl
          have wlen : (ws.map pw).length = ws.length := List.length_map _
          have hl5 : ws.length ≤ 5 * (1 + bnd f) := by
            have : 0 ≤ rs.length * (1 + bnd f) := Nat.zero_le _
            omega
          refine ⟨trivial, ?_⟩
          repeat k_extra "y"
          refine ⟨c1, n, f, rfl, rfl, hd1, ok, by omega, hg, by omega, fun thing w2 c3 hW2 wk2 hl2 hS2 hd3 => ?_⟩
          have wlen2 : (w2.map pw).length = w2.length := List.length_map _
          repeat k_extra "y"
          rw [put_dk hpn]
          repeat k_extra "y"
          have e9 : ∀ q ∈ qs, (fun q => if q = p then w2 else wf q) q = wf q := fun q hq => if_neg fun e => hpn (by rw [← e]; exact hq)
          have gg := ih _ ⟨rs, qs ++ [p], upg g p thing, fun q => if q = p then w2 else wf q, ws ++ ([(p, "key")] : List (Str × Str)) ++ w2, c3, .fz thing, .fz (.lst (w2.map pw)), .fz (.str p), rfl, by simp [e2], fun q hq => by
            rcases List.mem_append.mp hq with h | h
            · rw [upg_ne fun e => hpn (by rw [← e]; exact h)]
              dsimp only
              rw [if_neg fun e => hpn (by rw [← e]; exact h)]
              exact hW q h
            · rw [List.mem_singleton.mp h, upg_same]
              dsimp only
              rw [if_pos rfl]
              exact ⟨hW2, hS2⟩, by
            rw [List.map_append, List.map_append, hw, List.flatMap_append, List.append_assoc]
            congr 1
            · exact fm_congr fun q hq => by rw [e9 q hq]
            · simp, (wk.app (.one (by omega))).app wk2, by simp only [List.length_append, List.length_cons, List.length_nil]; omega, hd3, rfl⟩
          simp only [List.map_append] at gg
          exact gg
      · have hnm : ((Str.ofString "place" = "step" ∧ n.pls = n.stn) ∨ (Str.ofString "place" = "place" ∧ n.pls = n.pls)) := .inr ⟨rfl, rfl⟩
        obtain ⟨kl, kn, k40⟩ := key n.pls hnm
        unfold Net.d
        repeat k_extra "y"
        refine' for_ind (fun rest s => ∃ (rs qs : List Str) (g : Str → Dv) (wf : Str → List (Str × Str)) (ws : List (Str × Str)) (c1 : Cl) (x y z : Sl), rest = sw rs ∧ n.pls = qs ++ rs ∧ (∀ p ∈ qs, W n.d f (g p) ((wf p).map (·.1)) ∧ Sm (dep f + 6) (g p)) ∧ ws.map (·.1) = qs.flatMap (fun p => p :: (wf p).map (·.1)) ∧ Wok ws ∧ ws.length + rs.length * (1 + bnd f) ≤ 5 * (1 + bnd f) ∧ DrC c1 ∧ s = ⟨[.fz (.obj 0), .fz n.d, .fz (.tup [.str "table", .str "place", fmD f]), .ow (.lst []), .ow (.lst (ws.map pw)), .un, x, y, .ow (.dic (dk qs g)), z, .un, .un], [c1]⟩)
          ⟨n.pls, [], fun _ => .non, fun _ => [], [], cl, _, _, _, rfl, rfl, fun p hp => absurd hp (by simp), rfl, .nil, by simp only [List.length_nil, Nat.zero_add]; exact Nat.mul_le_mul_right _ kl, hd, rfl⟩ ?hnTplace ?hcTplace
        case hnTplace =>
          rintro s ⟨rs, qs, g, wf, ws, c1, x, y, z, e1, e2, hW, hw, wk, hl, hd1, rfl⟩
          have : rs = [] := by cases rs with | nil => rfl | cons _ _ => cases e1
          subst this
          rw [List.append_nil] at e2
          subst e2
          refine ⟨trivial, ?_⟩
          repeat k_extra "y"
          exact fin _ g wf ws c1 hnm hW hw wk (by simp only [List.length_nil, Nat.zero_mul] at hl; omega) hd1
        case hcTplace =>
          rintro d rest s ih ⟨rs, qs, g, wf, ws, c1, x, y, z, e1, e2, hW, hw, wk, hl, hd1, rfl⟩
          cases rs with
          | nil => cases e1
          | cons p rs =>
          cases e1
          rw [e2] at kn kl
          simp only [List.length_append, List.length_cons] at kl
          have hpn : p ∉ qs := fun hq => (List.nodup_append.mp kn).2.2 _ hq _ (by simp) rfl
          have p40 := k40 p (by rw [e2]; simp)
          have hql : (dk qs g).length ≤ 5 := by rw [dk_len]; omega
          rw [List.length_cons, Nat.succ_mul] at hl
          have wlen : (ws.map pw).length = ws.length := List.length_map _
          have hl5 : ws.length ≤ 5 * (1 + bnd f) := by
            have : 0 ≤ rs.length * (1 + bnd f) := Nat.zero_le _
            omega
          refine ⟨trivial, ?_⟩
          repeat k_extra "y"
          refine ⟨c1, n, f, rfl, rfl, hd1, ok, by omega, hg, by omega, fun thing w2 c3 hW2 wk2 hl2 hS2 hd3 => ?_⟩
          have wlen2 : (w2.map pw).length = w2.length := List.length_map _
          repeat k_extra "y"
          rw [put_dk hpn]
          repeat k_extra "y"
          have e9 : ∀ q ∈ qs, (fun q => if q = p then w2 else wf q) q = wf q := fun q hq => if_neg fun e => hpn (by rw [← e]; exact hq)
          have gg := ih _ ⟨rs, qs ++ [p], upg g p thing, fun q => if q = p then w2 else wf q, ws ++ ([(p, "key")] : List (Str × Str)) ++ w2, c3, .fz thing, .fz (.lst (w2.map pw)), .fz (.str p), rfl, by simp [e2], fun q hq => by
            rcases List.mem_append.mp hq with h | h
            · rw [upg_ne fun e => hpn (by rw [← e]; exact h)]
              dsimp only
              rw [if_neg fun e => hpn (by rw [← e]; exact h)]
              exact hW q h
            · rw [List.mem_singleton.mp h, upg_same]
              dsimp only
              rw [if_pos rfl]
              exact ⟨hW2, hS2⟩, by
            rw [List.map_append, List.map_append, hw, List.flatMap_append, List.append_assoc]
            congr 1
            · exact fm_congr fun q hq => by rw [e9 q hq]
            · simp, (wk.app (.one (by omega))).app wk2, by simp only [List.length_append, List.length_cons, List.length_nil]; omega, hd3, rfl⟩
          simp only [List.map_append] at gg
          exact gg
    | tuple t fs =>
      rw [dep] at hdp q
      rw [bnd] at hb q
      rw [gf] at hg
      simp only [Bool.and_eq_true, decide_eq_true_eq] at hg
      obtain ⟨⟨hn, ht0⟩, hg⟩ := hg
      have ht : t.length ≤ 1921 := by omega
      unfold fmD
      repeat k_extra "y"
      refine' for_ind (fun rest s => ∃ (fr fq : List Fm) (ts : List Dv) (ws : List (Str × Str)) (c1 : Cl) (x y z : Sl), rest = fmDs fr ∧ fs = fq ++ fr ∧ ts.length = fq.length ∧ Ws n.d fq ts (ws.map (·.1)) ∧ Wok ws ∧ ws.length + bnds fr ≤ bnds fs ∧ (∀ t ∈ ts, Sm (deps fs + 6) t) ∧ DrC c1 ∧ s = ⟨[.fz (.obj 0), .fz n.d, .fz (fmD (.tuple t fs)), .ow (.lst ([Dv.str t] ++ ts)), .ow (.lst ((([(t, "word")] : List (Str × Str)) ++ ws).map pw)), .un, x, y, .un, .un, .un, z], [c1]⟩)
        ⟨fs, [], [], [], cl, _, _, _, rfl, rfl, rfl, .nil, .nil, by simp only [List.length_nil]; omega, fun t ht => absurd ht (by simp), hd, rfl⟩ ?hnPt ?hcPt
      case hnPt =>
        rintro s ⟨fr, fq, ts, ws, c1, x, y, z, e1, e2, hlt, hW, wk, hl, hS, hd1, rfl⟩
        have : fr = [] := by cases fr with | nil => rfl | cons _ _ => cases e1
        subst this
        rw [List.append_nil] at e2
        subst e2
        rw [bnds] at hl
        refine ⟨trivial, ?_⟩
        repeat k_extra "y"
        exact q (.tup (.str t :: ts)) (([(t, "word")] : List (Str × Str)) ++ ws) c1 (.tuple t _ ts _ hW) (Wok.app (.one ht) wk) (by simp only [List.length_append, List.length_singleton]; omega) ⟨by rw [List.length_cons]; omega, fun x hx => (List.mem_cons.mp hx).elim (fun h => by rw [h]; exact trivial) (hS x)⟩ hd1
      case hcPt =>
        rintro d rest s ih ⟨fr, fq, ts, ws, c1, x, y, z, e1, e2, hlt, hW, wk, hl, hS, hd1, rfl⟩
        cases fr with
        | nil => cases e1
        | cons g fr =>
        cases e1
        have hm : g ∈ fs := by rw [e2]; simp
        have d1 := dep_mem hm
        have b1 := bnd_mem hm
        have l1 : fq.length ≤ 100 := by
          rw [e2] at hn
          simp only [List.length_append, List.length_cons] at hn
          omega
        rw [bnds] at hl
        have wlen : (ws.map pw).length = ws.length := List.length_map _
        refine ⟨trivial, ?_⟩
        repeat k_extra "y"
        refine ⟨c1, n, g, rfl, rfl, hd1, ok, by omega, gf_mem hg hm, by omega, fun thing w2 c3 hW2 wk2 hl2 hS2 hd3 => ?_⟩
        have wlen2 : (w2.map pw).length = w2.length := List.length_map _
        repeat k_extra "y"
        have gg := ih _ ⟨fr, fq ++ [g], ts ++ [thing], ws ++ w2, c3, .fz thing, .fz (.lst (w2.map pw)), .fz (fmD g), rfl, by simp [e2], by simp only [List.length_append, List.length_singleton]; omega, by rw [List.map_append]; exact hW.snoc hW2, wk.app wk2, by rw [List.length_append]; omega, fun t ht => (List.mem_append.mp ht).elim (hS t) fun h => by rw [List.mem_singleton.mp h]; exact hS2.mono (by omega), hd3, rfl⟩
        simp only [List.map_append, ← List.append_assoc] at gg ⊢
        exact gg
    | pair fs =>
      rw [dep] at hdp q
      rw [bnd] at hb q
      rw [gf] at hg
      simp only [Bool.and_eq_true, decide_eq_true_eq] at hg
      obtain ⟨hn, hg⟩ := hg
      unfold fmD
      repeat k_extra "y"
      refine' for_ind (fun rest s => ∃ (fr fq : List Fm) (ts : List Dv) (ws : List (Str × Str)) (c1 : Cl) (x y z : Sl), rest = fmDs fr ∧ fs = fq ++ fr ∧ ts.length = fq.length ∧ Ws n.d fq ts (ws.map (·.1)) ∧ Wok ws ∧ ws.length + bnds fr ≤ bnds fs ∧ (∀ t ∈ ts, Sm (deps fs + 6) t) ∧ DrC c1 ∧ s = ⟨[.fz (.obj 0), .fz n.d, .fz (fmD (.pair fs)), .ow (.lst (([] : List Dv) ++ ts)), .ow (.lst ((([] : List (Str × Str)) ++ ws).map pw)), .un, x, y, .un, .un, .un, z], [c1]⟩)
        ⟨fs, [], [], [], cl, _, _, _, rfl, rfl, rfl, .nil, .nil, by simp only [List.length_nil]; omega, fun t ht => absurd ht (by simp), hd, rfl⟩ ?hnPp ?hcPp
      case hnPp =>
        rintro s ⟨fr, fq, ts, ws, c1, x, y, z, e1, e2, hlt, hW, wk, hl, hS, hd1, rfl⟩
        have : fr = [] := by cases fr with | nil => rfl | cons _ _ => cases e1
        subst this
        rw [List.append_nil] at e2
        subst e2
        rw [bnds] at hl
        refine ⟨trivial, ?_⟩
        repeat k_extra "y"
        exact q (.tup ts) ws c1 (.pair _ ts _ hW) wk (by omega) ⟨by omega, hS⟩ hd1
      case hcPp =>
        rintro d rest s ih ⟨fr, fq, ts, ws, c1, x, y, z, e1, e2, hlt, hW, wk, hl, hS, hd1, rfl⟩
        cases fr with
        | nil => cases e1
        | cons g fr =>
        cases e1
        have hm : g ∈ fs := by rw [e2]; simp
        have d1 := dep_mem hm
        have b1 := bnd_mem hm
        have l1 : fq.length ≤ 100 := by
          rw [e2] at hn
          simp only [List.length_append, List.length_cons] at hn
          omega
        rw [bnds] at hl
        have wlen : (ws.map pw).length = ws.length := List.length_map _
        refine ⟨trivial, ?_⟩
        repeat k_extra "y"
        refine ⟨c1, n, g, rfl, rfl, hd1, ok, by omega, gf_mem hg hm, by omega, fun thing w2 c3 hW2 wk2 hl2 hS2 hd3 => ?_⟩
        have wlen2 : (w2.map pw).length = w2.length := List.length_map _
        repeat k_extra "y"
        have gg := ih _ ⟨fr, fq ++ [g], ts ++ [thing], ws ++ w2, c3, .fz thing, .fz (.lst (w2.map pw)), .fz (fmD g), rfl, by simp [e2], by simp only [List.length_append, List.length_singleton]; omega, by rw [List.map_append]; exact hW.snoc hW2, wk.app wk2, by rw [List.length_append]; omega, fun t ht => (List.mem_append.mp ht).elim (hS t) fun h => by rw [List.mem_singleton.mp h]; exact hS2.mono (by omega), hd3, rfl⟩
        simp only [List.map_append, ← List.append_assoc] at gg ⊢
        exact gg
end
end MK



namespace MK
open PySem L2 VL

local macro_rules | `(tactic| k_extra "sd") => `(tactic| first
  | assumption
  | exact Nat.le_of_ble_eq_true rfl
  | ((try simp only [sz16, List.length_append, List.length_cons, List.length_nil, List.length_map, List.length_replicate]); omega)
  | decide
  | decide +kernel)
local macro_rules | `(tactic| k_extra "sd2") => `(tactic| first
  | trivial
  | ((with_reducible show look _ _ _); first | (refine x_lkV ?_; trivial) | (refine' x_lkF ?e ?k; (case e => rfl); (case k => trivial)) | (refine' x_lkO ?e ?k; (case e => rfl); (case k => trivial)))
  | k_extra "sd")
local macro_rules | `(tactic| k_extra "fc") => `(tactic| fail)
local macro_rules | `(tactic| k_extra "yd") => `(tactic| first
  | ((with_reducible show inD _ _ _); first | (refine' y_inT ?f ?g ?k; (case f => rfl); (case g => rfl)) | (refine' y_inL ?f ?g ?k; (case f => rfl); (case g => rfl)) | refine y_inS ?_ | (refine' y_inD ?e ?k; (case e => rfl)))
  | ((with_reducible show ixD _ _ _); first | (refine' y_ixT ?e ?k; (case e => rfl)) | (refine' y_ixL ?e ?k; (case e => rfl)) | (refine' y_ixT ?e ?k; (case e => assumption)) | (refine' y_ixL ?e ?k; (case e => assumption)) | (refine' y_ixT ?e ?k; (case e => exact atI_0)) | (refine' y_ixT ?e ?k; (case e => exact atI_1)) | (refine' y_ixT ?e ?k; (case e => exact atI_2)) | (refine' y_ixL ?e ?k; (case e => exact atI_0)) | (refine' y_ixD ?e ?e2 ?k; (case e => rfl); (case e2 => assumption)))
  | ((with_reducible show slD _ _ _ _); first | refine y_slL ?_ | refine sl_1 ?_ | refine sl_2 ?_ | (refine' y_slT ?n ?k; (case n => decide)) | (refine' y_slS ?l ?k; (case l => k_extra "sd")))
  | ((with_reducible show eqD _ _ _); refine' y_eq ?e ?k; (case e => rfl))
  | ((with_reducible show neD _ _ _); refine' y_ne ?e ?k; (case e => rfl))
  | ((with_reducible show strD _ _); first | refine y_strS ?_ | (refine' y_strI ?l ?k; (case l => k_extra "sd")))
  | ((with_reducible show allD _ _ _); refine y_allT ?_)
  | ((with_reducible show allD _ _ _); refine' y_all ?e ?k; (case e => first | assumption | rfl))
  | ((with_reducible show setD _ _ _ _); first | (refine' y_setL ?e ?k; (case e => rfl)) | (refine' y_setD ?e ?l ?k; (case e => rfl); (case l => k_extra "sd"))))
local macro_rules | `(tactic| k_extra "y") => `(tactic| first
  | ((with_reducible show And _ _); refine' And.intro ?l ?k; (case l => k_extra "sd2"))
  | ((with_reducible show ite _ _ _); first | refine iT (by first | rfl | decide) ?_ | refine iF (by first | decide) ?_ | (refine' iT ?h ?k; (case h => (simp; done))) | (refine' iF ?h ?k; (case h => (simp; done))) | fail)
  | ((with_reducible show br _ _ _); first | refine brT (by first | rfl | decide) ?_ | refine brF (by first | decide) ?_ | (refine' brT ?h ?k; (case h => (simp; done))) | (refine' brF ?h ?k; (case h => (simp; done))))
  | k_extra "yd"
  | k_extra "fc"
  | (fail_if_success (with_reducible show forV _ _ _ _ _ _ _)
     fail_if_success (with_reducible show compV _ _ _ _ _ _ _ _ _)
     fail_if_success (with_reducible show dcompV _ _ _ _ _ _ _ _ _ _)
     fail_if_success (with_reducible show Exists _)
     fail_if_success (with_reducible show And _ _)
     fail_if_success (refine' dupl ?i ?x; (case i => (conv => lhs; whnf)))
     conv => whnf))

def fSteps : Fm := .list (.leaf "step")
def fPlaces : Fm := .list (.leaf "place")
def fWall : Fm := .list (.leaf "box")
def fLadder : Fm := .list (.or [.tuple "do" [.leaf "step"], .tuple "pump" [fSteps]])
def fMarked : Fm := .list (.pair [.leaf "marking", .leaf "number"])
def fEntry : Fm := .or [.tuple "do" [.leaf "name"], .tuple "move" [.leaf "name"]]
def fDeed : Fm := .or [.tuple "edition" [.leaf "name", .leaf "net"], .tuple "begin" [.leaf "name", .leaf "name"], .tuple "do" [.leaf "name", .leaf "name"], .tuple "move" [.leaf "name", .leaf "name"], .tuple "back" [.leaf "name"], .tuple "late" [.leaf "name", .leaf "number", .leaf "name"], .tuple "strike" [.leaf "name", .leaf "number"]]
def fMoves : Fm := .list (.or [.tuple "both" [.leaf "step"], .tuple "log" [.leaf "name"], .tuple "net" [.leaf "step"]])
def fFloors : Fm := .list (.pair [.pair [.leaf "marking", .leaf "number"], .leaf "number"])
/-- kinds and their forms -/
def kf : List (Str × Fm) := [("net", .leaf "net"), ("marking", .leaf "marking"), ("box", .leaf "box"), ("amount", .leaf "amount"), ("place", .leaf "place"), ("step", .leaf "step"), ("name", .leaf "name"), ("number", .leaf "number"), ("steps", fSteps), ("places", fPlaces), ("names", .list (.leaf "name")), ("markings", .list (.leaf "marking")), ("wall", fWall), ("ladder", fLadder), ("times", .table "step" (.leaf "amount")), ("begins", .table "step" (.list (.leaf "amount"))), ("goal", .or [.leaf "marking", .none]), ("cover", .or [.tuple "run" [.leaf "marking", fSteps], .tuple "wall" [fWall]]), ("limits", .list (.pair [.leaf "box", fLadder])), ("bound", .or [.tuple "most" [.leaf "number", fSteps, fWall], .tuple "many" [fLadder]]), ("ends", .or [.tuple "ends" [fSteps, fMarked], .tuple "endless" [fSteps, fSteps]]), ("equation", .or [.tuple "numbers" [.table "step" (.leaf "whole")], .tuple "weights" [.table "place" (.leaf "amount")]]), ("live", .or [.tuple "live" [fMarked], .tuple "dies" [fSteps, fWall]]), ("pace", .or [.tuple "stuck" [fPlaces], .tuple "pace" [.leaf "amount", fPlaces, .table "step" (.leaf "amount")]]), ("way", .or [.tuple "weights" [.table "place" (.leaf "whole")], .tuple "ring" [fPlaces], .tuple "steps" [fSteps]]), ("sound", .or [.tuple "grows" [fLadder], .tuple "stuck" [fSteps, fWall], .tuple "left" [fSteps], .tuple "never" [.leaf "step", fWall], .tuple "sound" [fMarked]]), ("fit", .or [.tuple "fits" [.leaf "number", fMoves, fFloors], .tuple "never" [.list (.leaf "marking")]]), ("entry", fEntry), ("log", .list fEntry), ("deed", fDeed), ("deeds", .list fDeed)]
theorem kl_net : kf.lookup ("net" : Str) = some (.leaf "net") := by kernel_rfl
theorem kl_marking : kf.lookup ("marking" : Str) = some (.leaf "marking") := by kernel_rfl
theorem kl_box : kf.lookup ("box" : Str) = some (.leaf "box") := by kernel_rfl
theorem kl_amount : kf.lookup ("amount" : Str) = some (.leaf "amount") := by kernel_rfl
theorem kl_place : kf.lookup ("place" : Str) = some (.leaf "place") := by kernel_rfl
theorem kl_step : kf.lookup ("step" : Str) = some (.leaf "step") := by kernel_rfl
theorem kl_name : kf.lookup ("name" : Str) = some (.leaf "name") := by kernel_rfl
theorem kl_number : kf.lookup ("number" : Str) = some (.leaf "number") := by kernel_rfl
theorem kl_steps : kf.lookup ("steps" : Str) = some (fSteps) := by kernel_rfl
theorem kl_places : kf.lookup ("places" : Str) = some (fPlaces) := by kernel_rfl
theorem kl_names : kf.lookup ("names" : Str) = some (.list (.leaf "name")) := by kernel_rfl
theorem kl_markings : kf.lookup ("markings" : Str) = some (.list (.leaf "marking")) := by kernel_rfl
theorem kl_wall : kf.lookup ("wall" : Str) = some (fWall) := by kernel_rfl
theorem kl_ladder : kf.lookup ("ladder" : Str) = some (fLadder) := by kernel_rfl
theorem kl_times : kf.lookup ("times" : Str) = some (.table "step" (.leaf "amount")) := by kernel_rfl
theorem kl_begins : kf.lookup ("begins" : Str) = some (.table "step" (.list (.leaf "amount"))) := by kernel_rfl
theorem kl_goal : kf.lookup ("goal" : Str) = some (.or [.leaf "marking", .none]) := by kernel_rfl
theorem kl_cover : kf.lookup ("cover" : Str) = some (.or [.tuple "run" [.leaf "marking", fSteps], .tuple "wall" [fWall]]) := by kernel_rfl
theorem kl_limits : kf.lookup ("limits" : Str) = some (.list (.pair [.leaf "box", fLadder])) := by kernel_rfl
theorem kl_bound : kf.lookup ("bound" : Str) = some (.or [.tuple "most" [.leaf "number", fSteps, fWall], .tuple "many" [fLadder]]) := by kernel_rfl
theorem kl_ends : kf.lookup ("ends" : Str) = some (.or [.tuple "ends" [fSteps, fMarked], .tuple "endless" [fSteps, fSteps]]) := by kernel_rfl
theorem kl_equation : kf.lookup ("equation" : Str) = some (.or [.tuple "numbers" [.table "step" (.leaf "whole")], .tuple "weights" [.table "place" (.leaf "amount")]]) := by kernel_rfl
theorem kl_live : kf.lookup ("live" : Str) = some (.or [.tuple "live" [fMarked], .tuple "dies" [fSteps, fWall]]) := by kernel_rfl
theorem kl_pace : kf.lookup ("pace" : Str) = some (.or [.tuple "stuck" [fPlaces], .tuple "pace" [.leaf "amount", fPlaces, .table "step" (.leaf "amount")]]) := by kernel_rfl
theorem kl_way : kf.lookup ("way" : Str) = some (.or [.tuple "weights" [.table "place" (.leaf "whole")], .tuple "ring" [fPlaces], .tuple "steps" [fSteps]]) := by kernel_rfl
theorem kl_sound : kf.lookup ("sound" : Str) = some (.or [.tuple "grows" [fLadder], .tuple "stuck" [fSteps, fWall], .tuple "left" [fSteps], .tuple "never" [.leaf "step", fWall], .tuple "sound" [fMarked]]) := by kernel_rfl
theorem kl_fit : kf.lookup ("fit" : Str) = some (.or [.tuple "fits" [.leaf "number", fMoves, fFloors], .tuple "never" [.list (.leaf "marking")]]) := by kernel_rfl
theorem kl_entry : kf.lookup ("entry" : Str) = some (fEntry) := by kernel_rfl
theorem kl_log : kf.lookup ("log" : Str) = some (.list fEntry) := by kernel_rfl
theorem kl_deed : kf.lookup ("deed" : Str) = some (fDeed) := by kernel_rfl
theorem kl_deeds : kf.lookup ("deeds" : Str) = some (.list fDeed) := by kernel_rfl
theorem kf_mem {k : Str} {fm : Fm} (h : kf.lookup k = some fm) : (k, fm) ∈ kf := by
  have key : ∀ l : List (Str × Fm), l.lookup k = some fm → (k, fm) ∈ l := by
    intro l
    induction l with
    | nil => intro h; cases h
    | cons a l ih =>
      intro h
      obtain ⟨a, f⟩ := a
      rw [List.lookup_cons] at h
      cases z : k == a with
      | true =>
        rw [z] at h
        cases h
        rw [eq_of_beq z]
        exact List.mem_cons_self
      | false =>
        rw [z] at h
        exact List.mem_cons_of_mem _ (ih h)
  exact key kf h
theorem kf_leaf {k : Str} {fm : Fm} (h : kf.lookup k = some fm) (n : k ∉ (["steps", "places", "names", "markings", "wall", "ladder", "times", "begins", "goal", "cover", "limits", "bound", "ends", "equation", "live", "pace", "way", "sound", "fit", "entry", "log", "deed", "deeds"] : List Str)) : fm = .leaf k := by
  have hm := kf_mem h
  simp only [kf, List.mem_cons, List.not_mem_nil, or_false, Prod.mk.injEq] at hm
  rcases hm with ⟨rfl, rfl⟩ | ⟨rfl, rfl⟩ | ⟨rfl, rfl⟩ | ⟨rfl, rfl⟩ | ⟨rfl, rfl⟩ | ⟨rfl, rfl⟩ | ⟨rfl, rfl⟩ | ⟨rfl, rfl⟩ | ⟨rfl, rfl⟩ | ⟨rfl, rfl⟩ | ⟨rfl, rfl⟩ | ⟨rfl, rfl⟩ | ⟨rfl, rfl⟩ | ⟨rfl, rfl⟩ | ⟨rfl, rfl⟩ | ⟨rfl, rfl⟩ | ⟨rfl, rfl⟩ | ⟨rfl, rfl⟩ | ⟨rfl, rfl⟩ | ⟨rfl, rfl⟩ | ⟨rfl, rfl⟩ | ⟨rfl, rfl⟩ | ⟨rfl, rfl⟩ | ⟨rfl, rfl⟩ | ⟨rfl, rfl⟩ | ⟨rfl, rfl⟩ | ⟨rfl, rfl⟩ | ⟨rfl, rfl⟩ | ⟨rfl, rfl⟩ | ⟨rfl, rfl⟩ | ⟨rfl, rfl⟩
  all_goals first
    | rfl
    | exact absurd (by simp only [List.mem_cons, true_or, or_true]) n
section
variable {P : Program} {w : World} {K : PySem.W.Frag} {mg : Str → Option Value} {base : Heap} {f aFORMS : Addr} {fd : FuncData}
def F_kinds : VSp := fun ds st Q R => ds = [] ∧ Q (.ow (.lst (sw (kf.map (·.1))))) st
theorem ok_kinds (F : FnP K "_law_kinds" s__law_kinds f fd) (m : mg "_law_kinds" = some (.ref f)) (b : Binds K fd [] []) (T : Blt mg) : VD P w K mg base 1 "_law_kinds" [] F_kinds := by
  refine' mk_v F m b sc__law_kinds ?der ?hl ?rd
  case hl => rintro ds st Q R ⟨rfl, _⟩; rfl
  case der => exact
    fun cdv A outer s H E hr =>
      (vss_one (vs_ret (ve_lst (va_c ve_str (va_c ve_str (va_c ve_str (va_c ve_str (va_c ve_str (va_c ve_str (va_c ve_str (va_c ve_str (va_c ve_str (va_c ve_str (va_c ve_str (va_c ve_str (va_c ve_str (va_c ve_str (va_c ve_str (va_c ve_str (va_c ve_str (va_c ve_str (va_c ve_str (va_c ve_str (va_c ve_str (va_c ve_str (va_c ve_str (va_c ve_str (va_c ve_str (va_c ve_str (va_c ve_str (va_c ve_str (va_c ve_str (va_c ve_str (va_c ve_str va_nil))))))))))))))))))))))))))))))))))
  case rd =>
    rintro ds st Q R ⟨rfl, q⟩
    repeat k_extra "y"
    exact q
def F_other : VSp := fun ds st Q R => ∃ (k : Str) (fm : Fm), ds = [.str k, fmD fSteps, fmD fWall, fmD fLadder, fmD fMarked, fmD fEntry, fmD fDeed] ∧ kf.lookup k = some fm ∧ k ∉ (["steps", "places", "names", "markings", "wall", "ladder", "times", "begins", "goal", "cover", "limits", "bound", "ends", "equation", "live", "pace", "way"] : List Str) ∧ Q (.fz (fmD fm)) st
theorem ok_other (F : FnP K "_law_other_form" s__law_other_form f fd) (m : mg "_law_other_form" = some (.ref f)) (b : Binds K fd ["kind", "steps", "wall", "ladder", "marked", "entry", "deed"] []) (T : Blt mg) : VD P w K mg base 1 "_law_other_form" ["kind", "steps", "wall", "ladder", "marked", "entry", "deed"] F_other := by
  refine' mk_v F m b sc__law_other_form ?der ?hl ?rd
  case hl => rintro ds st Q R ⟨_, _, rfl, _⟩; rfl
  case der => exact
    fun cdv A outer s H E hr =>
      (vss_cons (vs_if (vc_cmp (ov_eq hr.units) (vnF 0) ve_str (nomark _))
        (vss_one (vs_retF (ve_tup (va_c ve_str (va_c (ve_tup (va_c ve_str (va_c ve_str (va_c (vnF 3) va_nil)))) (va_c (ve_tup (va_c ve_str (va_c ve_str (va_c (vnF 1) (va_c (vnF 2) va_nil))))) (va_c (ve_tup (va_c ve_str (va_c ve_str (va_c (vnF 1) va_nil)))) (va_c (ve_tup (va_c ve_str (va_c ve_str (va_c ve_str (va_c (vnF 2) va_nil))))) (va_c (ve_tup (va_c ve_str (va_c ve_str (va_c (vnF 4) va_nil)))) va_nil)))))))))
        vss_nil)
       (vss_cons (vs_if (vc_cmp (ov_eq hr.units) (vnF 0) ve_str (nomark _))
        (vss_cons (vs_set (i := 7) sc__law_other_form.nd rfl (by first | exact Or.inl rfl | exact Or.inr rfl) (ve_tup (va_c ve_str (va_c (ve_tup (va_c ve_str (va_c (ve_tup (va_c ve_str (va_c ve_str (va_c ve_str va_nil)))) (va_c (ve_tup (va_c ve_str (va_c ve_str (va_c ve_str va_nil)))) (va_c (ve_tup (va_c ve_str (va_c ve_str (va_c ve_str va_nil)))) va_nil))))) va_nil))))
       (vss_cons (vs_set (i := 8) sc__law_other_form.nd rfl (by first | exact Or.inl rfl | exact Or.inr rfl) (ve_tup (va_c ve_str (va_c (ve_tup (va_c ve_str (va_c (ve_tup (va_c ve_str (va_c ve_str (va_c ve_str va_nil)))) (va_c ve_str va_nil)))) va_nil))))
       (vss_one (vs_retF (ve_tup (va_c ve_str (va_c (ve_tup (va_c ve_str (va_c ve_str (va_c ve_str (va_c (vnF 7) (va_c (vnF 8) va_nil)))))) (va_c (ve_tup (va_c ve_str (va_c ve_str (va_c (ve_tup (va_c ve_str (va_c ve_str va_nil))) va_nil)))) va_nil))))))))
        vss_nil)
       (vss_cons (vs_if (vc_cmp (ov_eq hr.units) (vnF 0) ve_str (nomark _))
        (vss_one (vs_retF (vnF 5)))
        vss_nil)
       (vss_cons (vs_if (vc_cmp (ov_eq hr.units) (vnF 0) ve_str (nomark _))
        (vss_one (vs_retF (ve_tup (va_c ve_str (va_c (vnF 5) va_nil)))))
        vss_nil)
       (vss_cons (vs_if (vc_cmp (ov_eq hr.units) (vnF 0) ve_str (nomark _))
        (vss_one (vs_retF (vnF 6)))
        vss_nil)
       (vss_cons (vs_if (vc_cmp (ov_eq hr.units) (vnF 0) ve_str (nomark _))
        (vss_one (vs_retF (ve_tup (va_c ve_str (va_c (vnF 6) va_nil)))))
        vss_nil)
       (vss_one (vs_retF (vnF 0)))))))))
  case rd =>
    rintro ds st Q R ⟨k, fm, rfl, hm, hk, q⟩
    repeat k_extra "y"
    refine ib (c := k = "sound") rfl (fun h => ?_) (fun h_sound => ?_)
    · subst h
      obtain rfl := Option.some.inj (kl_sound.symm.trans hm)
      repeat k_extra "y"
      exact q
    repeat k_extra "y"
    refine ib (c := k = "fit") rfl (fun h => ?_) (fun h_fit => ?_)
    · subst h
      obtain rfl := Option.some.inj (kl_fit.symm.trans hm)
      repeat k_extra "y"
      exact q
    repeat k_extra "y"
    refine ib (c := k = "entry") rfl (fun h => ?_) (fun h_entry => ?_)
    · subst h
      obtain rfl := Option.some.inj (kl_entry.symm.trans hm)
      repeat k_extra "y"
      exact q
    repeat k_extra "y"
    refine ib (c := k = "log") rfl (fun h => ?_) (fun h_log => ?_)
    · subst h
      obtain rfl := Option.some.inj (kl_log.symm.trans hm)
      repeat k_extra "y"
      exact q
    repeat k_extra "y"
    refine ib (c := k = "deed") rfl (fun h => ?_) (fun h_deed => ?_)
    · subst h
      obtain rfl := Option.some.inj (kl_deed.symm.trans hm)
      repeat k_extra "y"
      exact q
    repeat k_extra "y"
    refine ib (c := k = "deeds") rfl (fun h => ?_) (fun h_deeds => ?_)
    · subst h
      obtain rfl := Option.some.inj (kl_deeds.symm.trans hm)
      repeat k_extra "y"
      exact q
    repeat k_extra "y"
    rw [kf_leaf hm (by
      simp only [List.mem_cons, List.not_mem_nil, or_false, not_or] at hk ⊢
      simp only [hk, h_sound, h_fit, h_entry, h_log, h_deed, h_deeds, not_false_eq_true, and_self])] at q
    exact q
def F_form : VSp := fun ds st Q R => ∃ (k : Str) (fm : Fm), ds = [.str k] ∧ kf.lookup k = some fm ∧ Q (.fz (fmD fm)) st
theorem ok_form (F : FnP K "_law_form" s__law_form f fd) (m : mg "_law_form" = some (.ref f)) (b : Binds K fd ["kind"] []) (T : Blt mg) (G__law_other_form : VD P w K mg base 1 "_law_other_form" ["kind", "steps", "wall", "ladder", "marked", "entry", "deed"] F_other) : VD P w K mg base 2 "_law_form" ["kind"] F_form := by
  refine' mk_v F m b sc__law_form ?der ?hl ?rd
  case hl => rintro ds st Q R ⟨_, _, rfl, _⟩; rfl
  case der => exact
    fun cdv A outer s H E hr =>
      (vss_cons (vs_set (i := 1) sc__law_form.nd rfl (by first | exact Or.inl rfl | exact Or.inr rfl) (ve_tup (va_c ve_str (va_c ve_str va_nil))))
       (vss_cons (vs_set (i := 2) sc__law_form.nd rfl (by first | exact Or.inl rfl | exact Or.inr rfl) (ve_tup (va_c ve_str (va_c ve_str va_nil))))
       (vss_cons (vs_set (i := 3) sc__law_form.nd rfl (by first | exact Or.inl rfl | exact Or.inr rfl) (ve_tup (va_c ve_str (va_c (ve_tup (va_c ve_str (va_c (ve_tup (va_c ve_str (va_c ve_str (va_c ve_str va_nil)))) (va_c (ve_tup (va_c ve_str (va_c ve_str (va_c (vnF 1) va_nil)))) va_nil)))) va_nil))))
       (vss_cons (vs_set (i := 4) sc__law_form.nd rfl (by first | exact Or.inl rfl | exact Or.inr rfl) (ve_tup (va_c ve_str (va_c (ve_tup (va_c ve_str (va_c ve_str (va_c ve_str va_nil)))) va_nil))))
       (vss_cons (vs_set (i := 5) sc__law_form.nd rfl (by first | exact Or.inl rfl | exact Or.inr rfl) (ve_tup (va_c ve_str (va_c (ve_tup (va_c ve_str (va_c ve_str (va_c ve_str va_nil)))) (va_c (ve_tup (va_c ve_str (va_c ve_str (va_c ve_str va_nil)))) va_nil)))))
       (vss_cons (vs_set (i := 6) sc__law_form.nd rfl (by first | exact Or.inl rfl | exact Or.inr rfl) (ve_tup (va_c ve_str (va_c (ve_tup (va_c ve_str (va_c ve_str (va_c ve_str (va_c ve_str va_nil))))) (va_c (ve_tup (va_c ve_str (va_c ve_str (va_c ve_str (va_c ve_str va_nil))))) (va_c (ve_tup (va_c ve_str (va_c ve_str (va_c ve_str (va_c ve_str va_nil))))) (va_c (ve_tup (va_c ve_str (va_c ve_str (va_c ve_str (va_c ve_str va_nil))))) (va_c (ve_tup (va_c ve_str (va_c ve_str (va_c ve_str va_nil)))) (va_c (ve_tup (va_c ve_str (va_c ve_str (va_c ve_str (va_c ve_str (va_c ve_str va_nil)))))) (va_c (ve_tup (va_c ve_str (va_c ve_str (va_c ve_str (va_c ve_str va_nil))))) va_nil))))))))))
       (vss_cons (vs_if (vc_cmp (ov_eq hr.units) (vnF 0) ve_str (nomark _))
        (vss_one (vs_retF (vnF 1)))
        vss_nil)
       (vss_cons (vs_if (vc_cmp (ov_eq hr.units) (vnF 0) ve_str (nomark _))
        (vss_one (vs_retF (ve_tup (va_c ve_str (va_c ve_str va_nil)))))
        vss_nil)
       (vss_cons (vs_if (vc_cmp (ov_eq hr.units) (vnF 0) ve_str (nomark _))
        (vss_one (vs_retF (ve_tup (va_c ve_str (va_c ve_str va_nil)))))
        vss_nil)
       (vss_cons (vs_if (vc_cmp (ov_eq hr.units) (vnF 0) ve_str (nomark _))
        (vss_one (vs_retF (ve_tup (va_c ve_str (va_c ve_str va_nil)))))
        vss_nil)
       (vss_cons (vs_if (vc_cmp (ov_eq hr.units) (vnF 0) ve_str (nomark _))
        (vss_one (vs_retF (vnF 2)))
        vss_nil)
       (vss_cons (vs_if (vc_cmp (ov_eq hr.units) (vnF 0) ve_str (nomark _))
        (vss_one (vs_retF (vnF 3)))
        vss_nil)
       (vss_cons (vs_if (vc_cmp (ov_eq hr.units) (vnF 0) ve_str (nomark _))
        (vss_one (vs_retF (ve_tup (va_c ve_str (va_c ve_str (va_c ve_str va_nil))))))
        vss_nil)
       (vss_cons (vs_if (vc_cmp (ov_eq hr.units) (vnF 0) ve_str (nomark _))
        (vss_one (vs_retF (ve_tup (va_c ve_str (va_c ve_str (va_c (ve_tup (va_c ve_str (va_c ve_str va_nil))) va_nil))))))
        vss_nil)
       (vss_cons (vs_if (vc_cmp (ov_eq hr.units) (vnF 0) ve_str (nomark _))
        (vss_one (vs_retF (ve_tup (va_c ve_str (va_c ve_str (va_c (ve_tup (va_c ve_str va_nil)) va_nil))))))
        vss_nil)
       (vss_cons (vs_if (vc_cmp (ov_eq hr.units) (vnF 0) ve_str (nomark _))
        (vss_one (vs_retF (ve_tup (va_c ve_str (va_c (ve_tup (va_c ve_str (va_c ve_str (va_c ve_str (va_c (vnF 1) va_nil))))) (va_c (ve_tup (va_c ve_str (va_c ve_str (va_c (vnF 2) va_nil)))) va_nil))))))
        vss_nil)
       (vss_cons (vs_if (vc_cmp (ov_eq hr.units) (vnF 0) ve_str (nomark _))
        (vss_one (vs_retF (ve_tup (va_c ve_str (va_c (ve_tup (va_c ve_str (va_c ve_str (va_c (vnF 3) va_nil)))) va_nil)))))
        vss_nil)
       (vss_cons (vs_if (vc_cmp (ov_eq hr.units) (vnF 0) ve_str (nomark _))
        (vss_one (vs_retF (ve_tup (va_c ve_str (va_c (ve_tup (va_c ve_str (va_c ve_str (va_c ve_str (va_c (vnF 1) (va_c (vnF 2) va_nil)))))) (va_c (ve_tup (va_c ve_str (va_c ve_str (va_c (vnF 3) va_nil)))) va_nil))))))
        vss_nil)
       (vss_cons (vs_if (vc_cmp (ov_eq hr.units) (vnF 0) ve_str (nomark _))
        (vss_one (vs_retF (ve_tup (va_c ve_str (va_c (ve_tup (va_c ve_str (va_c ve_str (va_c (vnF 1) (va_c (vnF 4) va_nil))))) (va_c (ve_tup (va_c ve_str (va_c ve_str (va_c (vnF 1) (va_c (vnF 1) va_nil))))) va_nil))))))
        vss_nil)
       (vss_cons (vs_if (vc_cmp (ov_eq hr.units) (vnF 0) ve_str (nomark _))
        (vss_one (vs_retF (ve_tup (va_c ve_str (va_c (ve_tup (va_c ve_str (va_c ve_str (va_c (ve_tup (va_c ve_str (va_c ve_str (va_c ve_str va_nil)))) va_nil)))) (va_c (ve_tup (va_c ve_str (va_c ve_str (va_c (ve_tup (va_c ve_str (va_c ve_str (va_c ve_str va_nil)))) va_nil)))) va_nil))))))
        vss_nil)
       (vss_cons (vs_if (vc_cmp (ov_eq hr.units) (vnF 0) ve_str (nomark _))
        (vss_one (vs_retF (ve_tup (va_c ve_str (va_c (ve_tup (va_c ve_str (va_c ve_str (va_c (vnF 4) va_nil)))) (va_c (ve_tup (va_c ve_str (va_c ve_str (va_c (vnF 1) (va_c (vnF 2) va_nil))))) va_nil))))))
        vss_nil)
       (vss_cons (vs_if (vc_cmp (ov_eq hr.units) (vnF 0) ve_str (nomark _))
        (vss_one (vs_retF (ve_tup (va_c ve_str (va_c (ve_tup (va_c ve_str (va_c ve_str (va_c (ve_tup (va_c ve_str (va_c ve_str va_nil))) va_nil)))) (va_c (ve_tup (va_c ve_str (va_c ve_str (va_c ve_str (va_c (ve_tup (va_c ve_str (va_c ve_str va_nil))) (va_c (ve_tup (va_c ve_str (va_c ve_str (va_c ve_str va_nil)))) va_nil)))))) va_nil))))))
        vss_nil)
       (vss_cons (vs_if (vc_cmp (ov_eq hr.units) (vnF 0) ve_str (nomark _))
        (vss_one (vs_retF (ve_tup (va_c ve_str (va_c (ve_tup (va_c ve_str (va_c ve_str (va_c (ve_tup (va_c ve_str (va_c ve_str (va_c ve_str va_nil)))) va_nil)))) (va_c (ve_tup (va_c ve_str (va_c ve_str (va_c (ve_tup (va_c ve_str (va_c ve_str va_nil))) va_nil)))) (va_c (ve_tup (va_c ve_str (va_c ve_str (va_c (vnF 1) va_nil)))) va_nil)))))))
        vss_nil)
       (vss_one (vs_retF (ve_callP G__law_other_form (hr.mono (by omega)) (takes_of (E := E) rfl rfl rfl rfl) (va_c (vnF 0) (va_c (vnF 1) (va_c (vnF 2) (va_c (vnF 3) (va_c (vnF 4) (va_c (vnF 5) (va_c (vnF 6) va_nil)))))))))))))))))))))))))))))))))
  case rd =>
    rintro ds st Q R ⟨k, fm, rfl, hm, q⟩
    repeat k_extra "y"
    refine ib (c := k = "steps") rfl (fun h => ?_) (fun h_steps => ?_)
    · subst h
      obtain rfl := Option.some.inj (kl_steps.symm.trans hm)
      repeat k_extra "y"
      exact q
    repeat k_extra "y"
    refine ib (c := k = "places") rfl (fun h => ?_) (fun h_places => ?_)
    · subst h
      obtain rfl := Option.some.inj (kl_places.symm.trans hm)
      repeat k_extra "y"
      exact q
    repeat k_extra "y"
    refine ib (c := k = "names") rfl (fun h => ?_) (fun h_names => ?_)
    · subst h
      obtain rfl := Option.some.inj (kl_names.symm.trans hm)
      repeat k_extra "y"
      exact q
    repeat k_extra "y"
    refine ib (c := k = "markings") rfl (fun h => ?_) (fun h_markings => ?_)
    · subst h
      obtain rfl := Option.some.inj (kl_markings.symm.trans hm)
      repeat k_extra "y"
      exact q
    repeat k_extra "y"
    refine ib (c := k = "wall") rfl (fun h => ?_) (fun h_wall => ?_)
    · subst h
      obtain rfl := Option.some.inj (kl_wall.symm.trans hm)
      repeat k_extra "y"
      exact q
    repeat k_extra "y"
    refine ib (c := k = "ladder") rfl (fun h => ?_) (fun h_ladder => ?_)
    · subst h
      obtain rfl := Option.some.inj (kl_ladder.symm.trans hm)
      repeat k_extra "y"
      exact q
    repeat k_extra "y"
    refine ib (c := k = "times") rfl (fun h => ?_) (fun h_times => ?_)
    · subst h
      obtain rfl := Option.some.inj (kl_times.symm.trans hm)
      repeat k_extra "y"
      exact q
    repeat k_extra "y"
    refine ib (c := k = "begins") rfl (fun h => ?_) (fun h_begins => ?_)
    · subst h
      obtain rfl := Option.some.inj (kl_begins.symm.trans hm)
      repeat k_extra "y"
      exact q
    repeat k_extra "y"
    refine ib (c := k = "goal") rfl (fun h => ?_) (fun h_goal => ?_)
    · subst h
      obtain rfl := Option.some.inj (kl_goal.symm.trans hm)
      repeat k_extra "y"
      exact q
    repeat k_extra "y"
    refine ib (c := k = "cover") rfl (fun h => ?_) (fun h_cover => ?_)
    · subst h
      obtain rfl := Option.some.inj (kl_cover.symm.trans hm)
      repeat k_extra "y"
      exact q
    repeat k_extra "y"
    refine ib (c := k = "limits") rfl (fun h => ?_) (fun h_limits => ?_)
    · subst h
      obtain rfl := Option.some.inj (kl_limits.symm.trans hm)
      repeat k_extra "y"
      exact q
    repeat k_extra "y"
    refine ib (c := k = "bound") rfl (fun h => ?_) (fun h_bound => ?_)
    · subst h
      obtain rfl := Option.some.inj (kl_bound.symm.trans hm)
      repeat k_extra "y"
      exact q
    repeat k_extra "y"
    refine ib (c := k = "ends") rfl (fun h => ?_) (fun h_ends => ?_)
    · subst h
      obtain rfl := Option.some.inj (kl_ends.symm.trans hm)
      repeat k_extra "y"
      exact q
    repeat k_extra "y"
    refine ib (c := k = "equation") rfl (fun h => ?_) (fun h_equation => ?_)
    · subst h
      obtain rfl := Option.some.inj (kl_equation.symm.trans hm)
      repeat k_extra "y"
      exact q
    repeat k_extra "y"
    refine ib (c := k = "live") rfl (fun h => ?_) (fun h_live => ?_)
    · subst h
      obtain rfl := Option.some.inj (kl_live.symm.trans hm)
      repeat k_extra "y"
      exact q
    repeat k_extra "y"
    refine ib (c := k = "pace") rfl (fun h => ?_) (fun h_pace => ?_)
    · subst h
      obtain rfl := Option.some.inj (kl_pace.symm.trans hm)
      repeat k_extra "y"
      exact q
    repeat k_extra "y"
    refine ib (c := k = "way") rfl (fun h => ?_) (fun h_way => ?_)
    · subst h
      obtain rfl := Option.some.inj (kl_way.symm.trans hm)
      repeat k_extra "y"
      exact q
    repeat k_extra "y"
    refine ⟨k, fm, rfl, hm, ?_, q⟩
    simp only [List.mem_cons, List.not_mem_nil, or_false, not_or]
    simp only [h_steps, h_places, h_names, h_markings, h_wall, h_ladder, h_times, h_begins, h_goal, h_cover, h_limits, h_bound, h_ends, h_equation, h_live, h_pace, h_way, not_false_eq_true, and_self]
end
end MK



namespace MK
open PySem L2 VL

local macro_rules | `(tactic| k_extra "sd") => `(tactic| first
  | assumption
  | exact Nat.le_of_ble_eq_true rfl
  | ((try simp only [sz16, List.length_append, List.length_cons, List.length_nil, List.length_map, List.length_replicate]); omega)
  | decide
  | decide +kernel)
local macro_rules | `(tactic| k_extra "sd2") => `(tactic| first
  | trivial
  | ((with_reducible show look _ _ _); first | (refine x_lkV ?_; trivial) | (refine' x_lkF ?e ?k; (case e => rfl); (case k => trivial)) | (refine' x_lkO ?e ?k; (case e => rfl); (case k => trivial)))
  | k_extra "sd")
local macro_rules | `(tactic| k_extra "fc") => `(tactic| fail)
local macro_rules | `(tactic| k_extra "yd") => `(tactic| first
  | ((with_reducible show inD _ _ _); first | (refine' y_inT ?f ?g ?k; (case f => rfl); (case g => rfl)) | (refine' y_inL ?f ?g ?k; (case f => rfl); (case g => rfl)) | refine y_inS ?_ | (refine' y_inD ?e ?k; (case e => rfl)))
  | ((with_reducible show ixD _ _ _); first | (refine' y_ixT ?e ?k; (case e => rfl)) | (refine' y_ixL ?e ?k; (case e => rfl)) | (refine' y_ixT ?e ?k; (case e => assumption)) | (refine' y_ixL ?e ?k; (case e => assumption)) | (refine' y_ixT ?e ?k; (case e => exact atI_0)) | (refine' y_ixT ?e ?k; (case e => exact atI_1)) | (refine' y_ixT ?e ?k; (case e => exact atI_2)) | (refine' y_ixL ?e ?k; (case e => exact atI_0)) | (refine' y_ixD ?e ?e2 ?k; (case e => rfl); (case e2 => assumption)))
  | ((with_reducible show slD _ _ _ _); first | refine y_slL ?_ | refine sl_1 ?_ | refine sl_2 ?_ | (refine' y_slT ?n ?k; (case n => decide)) | (refine' y_slS ?l ?k; (case l => k_extra "sd")))
  | ((with_reducible show eqD _ _ _); refine' y_eq ?e ?k; (case e => rfl))
  | ((with_reducible show neD _ _ _); refine' y_ne ?e ?k; (case e => rfl))
  | ((with_reducible show strD _ _); first | refine y_strS ?_ | (refine' y_strI ?l ?k; (case l => k_extra "sd")))
  | ((with_reducible show allD _ _ _); refine y_allT ?_)
  | ((with_reducible show allD _ _ _); refine' y_all ?e ?k; (case e => first | assumption | rfl))
  | ((with_reducible show setD _ _ _ _); first | (refine' y_setL ?e ?k; (case e => rfl)) | (refine' y_setD ?e ?l ?k; (case e => rfl); (case l => k_extra "sd"))))
local macro_rules | `(tactic| k_extra "y") => `(tactic| first
  | ((with_reducible show And _ _); refine' And.intro ?l ?k; (case l => k_extra "sd2"))
  | ((with_reducible show ite _ _ _); first | refine iT (by first | rfl | decide) ?_ | refine iF (by first | decide) ?_ | (refine' iT ?h ?k; (case h => (simp; done))) | (refine' iF ?h ?k; (case h => (simp; done))) | fail)
  | ((with_reducible show br _ _ _); first | refine brT (by first | rfl | decide) ?_ | refine brF (by first | decide) ?_ | (refine' brT ?h ?k; (case h => (simp; done))) | (refine' brF ?h ?k; (case h => (simp; done))))
  | k_extra "yd"
  | k_extra "fc"
  | (fail_if_success (with_reducible show forV _ _ _ _ _ _ _)
     fail_if_success (with_reducible show compV _ _ _ _ _ _ _ _ _)
     fail_if_success (with_reducible show dcompV _ _ _ _ _ _ _ _ _ _)
     fail_if_success (with_reducible show Exists _)
     fail_if_success (with_reducible show And _ _)
     fail_if_success (refine' dupl ?i ?x; (case i => (conv => lhs; whnf)))
     conv => whnf))

theorem cut_take {xs : List Dv} (k : Nat) (h : k ≤ xs.length) : cutD xs none (some (k : Int)) = xs.take k := by
  unfold cutD
  rw [HT.sIx_none, HT.sIx_nat, Nat.min_eq_left h, List.drop_zero, Nat.sub_zero]
theorem cut_drop {xs : List Dv} (k : Nat) (h : k ≤ xs.length) : cutD xs (some (k : Int)) none = xs.drop k := by
  unfold cutD
  rw [HT.sIx_nat, HT.sIx_none, Nat.min_eq_left h, List.take_of_length_le (by rw [List.length_drop]; exact Nat.le_refl _)]
section
variable {P : Program} {w : World} {K : PySem.W.Frag} {mg : Str → Option Value} {base : Heap} {f aFORMS : Addr} {fd : FuncData}
def F_sn : VSp := fun ds st Q R => ∃ (cl : Cl), ds = [.obj 0] ∧ st = [cl] ∧ DrC cl ∧ ∀ (n : Net) (names : List Str) cl', n.Ok → names.length = 2 → DrC cl' → Q (.fz (.tup [n.d, .lst (sw names)])) [cl']
theorem ok_sn (F : FnP K "_law_some_net" s__law_some_net f fd) (m : mg "_law_some_net" = some (.ref f)) (b : Binds K fd ["draws"] []) (T : Blt mg) (G__law_draw : VD P w K mg base 1 "_law_draw" ["draws", "limit"] F_draw) (G__law_names : VD P w K mg base 2 "_law_names" ["draws", "many"] F_names) : VD P w K mg base 3 "_law_some_net" ["draws"] F_sn := by
  refine' mk_v F m b sc__law_some_net ?der ?hl ?rd
  case hl => rintro ds st Q R ⟨_, rfl, _⟩; rfl
  case der => exact
    fun cdv A outer s H E hr =>
      (vss_cons (vs_set (i := 1) sc__law_some_net.nd rfl (by first | exact Or.inl rfl | exact Or.inr rfl) (ve_callP G__law_names (hr.mono (by omega)) (takes_of (E := E) rfl rfl rfl rfl) (va_c (vnF 0) (va_c ve_int va_nil))))
       (vss_cons (vs_set (i := 2) sc__law_some_net.nd rfl (by first | exact Or.inl rfl | exact Or.inr rfl) (ve_slice (vpn 1) vo_none (vo_some (ve_bin ov_add ve_int (ve_callP G__law_draw (hr.mono (by omega)) (takes_of (E := E) rfl rfl rfl rfl) (va_c (vnF 0) (va_c ve_int va_nil)))))))
       (vss_cons (vs_set (i := 3) sc__law_some_net.nd rfl (by first | exact Or.inl rfl | exact Or.inr rfl) (ve_lst va_nil))
       (vss_cons (vs_for (passes_of rfl) rfl (vi_range1 (by rfl) T.range (va_c (ve_bin ov_add ve_int (ve_callP G__law_draw (hr.mono (by omega)) (takes_of (E := E) rfl rfl rfl rfl) (va_c (vnF 0) (va_c ve_int va_nil)))) va_nil)) (vg_name (i := 4) sc__law_some_net.nd rfl (by first | exact Or.inl rfl | exact Or.inr rfl))
        (vss_cons (vs_setLc (i := 5) (own := [("place", 6)]) (.nm 6) rfl sc__law_some_net.nd rfl rfl (sw_true rfl rfl rfl (by decide +kernel)) (vi_list (vnF 2)) (blkOk_by (own := [("place", 6)]) (N := ["draws", "names", "places", "rows", "k", "takes", "place", "gives"]) (sc := (defScope s__law_some_net)) (by decide +kernel)) (fun _ _ _ _ _ => (pg_name (i := 6) sc__law_some_net.nd rfl (by first | exact Or.inl rfl | exact Or.inr rfl))) (fun _ _ _ _ _ => (vts_one (vc_cmp (ov_eq hr.units) (ve_callP G__law_draw (hr.mono (by omega)) takes0 (va_c (vnF 0) (va_c ve_int va_nil))) ve_int (nomark _)))) (fun _ _ _ _ _ => (ve_tup (va_c (vnF 6) (va_c (ve_bin ov_add ve_int (ve_callP G__law_draw (hr.mono (by omega)) takes0 (va_c (vnF 0) (va_c ve_int va_nil)))) va_nil)))))
       (vss_cons (vs_setLc (i := 7) (own := [("place", 6)]) (.nm 6) rfl sc__law_some_net.nd rfl rfl (sw_true rfl rfl rfl (by decide +kernel)) (vi_list (vnF 2)) (blkOk_by (own := [("place", 6)]) (N := ["draws", "names", "places", "rows", "k", "takes", "place", "gives"]) (sc := (defScope s__law_some_net)) (by decide +kernel)) (fun _ _ _ _ _ => (pg_name (i := 6) sc__law_some_net.nd rfl (by first | exact Or.inl rfl | exact Or.inr rfl))) (fun _ _ _ _ _ => (vts_one (vc_cmp (ov_eq hr.units) (ve_callP G__law_draw (hr.mono (by omega)) takes0 (va_c (vnF 0) (va_c ve_int va_nil))) ve_int (nomark _)))) (fun _ _ _ _ _ => (ve_tup (va_c (vnF 6) (va_c (ve_bin ov_add ve_int (ve_callP G__law_draw (hr.mono (by omega)) takes0 (va_c (vnF 0) (va_c (ve_bin ov_pow ve_int ve_int) va_nil)))) va_nil)))))
       (vss_one (vs_expr (ve_mu PySem.F.plainAttrs_list PySem.F.slot_list_append PySem.F.type_list_append mu_append (vpn 3) (va_c (ve_tup (va_c (ve_ix (hu_of hr) (vpn 1) (ve_bin ov_add ve_int (vnF 4)) (fun _ _ => rfl)) (va_c (vnF 5) (va_c (vnF 7) va_nil)))) va_nil)))))))
       (vss_one (vs_retF (ve_tup (va_c (ve_tup (va_c ve_str (va_c (ve_ix (hu_of hr) (vpn 1) ve_int (fun _ _ => rfl)) (va_c (vnF 2) (va_c (vnF 3) va_nil))))) (va_c (ve_slice (vpn 1) (vo_some ve_int) vo_none) va_nil)))))))))
  case rd =>
    rintro ds st Q R ⟨cl, rfl, rfl, hd, q⟩
    repeat k_extra "y"
    refine ⟨cl, 12, rfl, rfl, hd, by decide, fun names c1 hl nd h40 hd1 => ?_⟩
    repeat k_extra "y"
    refine ⟨c1, 5, rfl, rfl, hd1, by decide, by decide, fun v c2 v0 v1 hd2 => ?_⟩
    obtain ⟨v, rfl⟩ : ∃ k : Nat, v = (k : Int) := ⟨v.toNat, by omega⟩
    have e1 : cutD (sw names) none (some (1 + (v : Int))) = sw (names.take (1 + v)) := by
      rw [show (1 + (v : Int)) = ((1 + v : Nat) : Int) by omega, cut_take _ (by rw [List.length_map]; omega)]
      exact List.map_take.symm
    repeat k_extra "y"
    rw [e1]
    have lp : (names.take (1 + v)).length = 1 + v := by rw [List.length_take]; omega
    generalize hpl : names.take (1 + v) = pl at *
    repeat k_extra "y"
    refine ⟨c2, 5, rfl, rfl, hd2, by decide, by decide, fun u c3 u0 u1 hd3 => ?_⟩
    repeat k_extra "y"
    have e6 : (10 : Int) ^ (6 : Int).toNat = 10 ^ 6 := by decide
    have hsub : ∀ p ∈ pl, p ∈ names := fun p hp => by rw [← hpl] at hp; exact List.mem_of_mem_take hp
    obtain ⟨u, rfl⟩ : ∃ k : Nat, u = (k : Int) := ⟨u.toNat, by omega⟩
    refine' for_ind (fun rest s => ∃ (j m : Nat) (sts : List (Str × List (Str × Int) × List (Str × Int))) (c' : Cl) (x2 x4 x5 x6 x7 : Sl), rest = rangeD (j : Int) m ∧ sts.length = j ∧ j + m = 1 + u ∧ sts.map (·.1) = (names.drop 5).take j ∧
        (∀ r ∈ sts, r.2.1.length ≤ 5 ∧ r.2.2.length ≤ 5 ∧ ∀ p, p ∈ r.2.1 ∨ p ∈ r.2.2 → 0 ≤ p.2 ∧ p.2 ≤ 10 ^ 6 ∧ p.1.length ≤ 40) ∧ DrC c' ∧ (x2 = .ow (.lst (sw pl)) ∨ x2 = .fz (.lst (sw pl))) ∧ s = ⟨[.fz (.obj 0), .fz (.lst (sw names)), x2, .ow (.lst (sts.map rowD)), x4, x5, x6, x7], [c']⟩)
      ⟨0, 1 + u, [], c3, _, _, _, _, _, by rw [show (1 + (u : Int)).toNat = 1 + u by omega] <;> rfl, rfl, by omega, rfl, fun r hr => absurd hr (by simp), hd3, .inl rfl, rfl⟩ ?hn1 ?hc1
    case hc1 =>
      rintro d rest s ih ⟨j, m, sts, c4, x2, x4, x5, x6, x7, e1, e2, e3, e4, hr, hd4, hx2, rfl⟩
      cases m with
      | zero => cases e1
      | succ m =>
      rw [rangeD_succ] at e1
      cases e1
      have slen : (sts.map rowD).length ≤ 5 := by rw [List.length_map]; omega
      have hat : atI (sw names) (5 + (j : Int)) = some (.str (names[5 + j]'(by omega))) := by
        rw [show (5 + (j : Int)) = ((5 + j : Nat) : Int) by omega]
        exact atI_nat (by simp [show 5 + j < names.length by omega])
      refine ⟨trivial, ?_⟩
      rcases hx2 with rfl | rfl
      all_goals
        repeat k_extra "y"
        refine comp_ind (fun rest acc s => ∃ (rs qs : List Str) (ps : List (Str × Int)) (c1 : Cl) (x6 : Sl), rest = sw rs ∧ pl = qs ++ rs ∧ acc = ps.map prD ∧ ps.length ≤ qs.length ∧ (∀ p ∈ ps, 0 ≤ p.2 ∧ p.2 ≤ 10 ^ 6 ∧ p.1.length ≤ 40) ∧ DrC c1 ∧ s = ⟨[.fz (.obj 0), .fz (.lst (sw names)), .fz (.lst (sw pl)), .ow (.lst (sts.map rowD)), .fz (.int (j : Nat)), x5, x6, x7], [c1]⟩)
          ⟨pl, [], [], _, _, rfl, rfl, rfl, Nat.le_refl _, fun p hp => absurd hp (by simp), by assumption, rfl⟩ ?_ ?_
        rotate_left
        focus
          rintro d rest acc s ih2 ⟨rs, qs, ps, c6, x6, e1, e2, rfl, hpl, hps, hd6, rfl⟩
          cases rs with
          | nil => cases e1
          | cons p rs =>
          cases e1
          have hp40 := h40 p (hsub p (by rw [e2]; simp))
          have hql : qs.length ≤ 5 := by
            have := congrArg List.length e2
            simp only [List.length_append, List.length_cons] at this
            omega
          refine ⟨trivial, ?_⟩
          repeat k_extra "y"
          refine ⟨c6, 3, rfl, rfl, hd6, by decide, by decide, fun a c7 a0 a1 hd7 => ?_⟩
          repeat k_extra "y"
          refine ib rfl (fun h => ?_) (fun h => ?_)
          · repeat k_extra "y"
            refine ⟨c7, 3, rfl, rfl, hd7, by decide, by decide, fun a c8 a0 a1 hd8 => ?_⟩
            repeat k_extra "y"
            refine ih2 _ _ ⟨rs, qs ++ [p], ps ++ [(p, 1 + a)], c8, _, rfl, by simp [e2], by rw [List.map_append] <;> rfl, by simp only [List.length_append, List.length_singleton]; omega, fun y hy => ?_, hd8, rfl⟩
            rcases List.mem_append.mp hy with hy | hy
            · exact hps y hy
            · rw [List.mem_singleton.mp hy]
              exact ⟨by show 0 ≤ 1 + a; omega, by show 1 + a ≤ 10 ^ 6; omega, hp40⟩
          · exact ih2 _ _ ⟨rs, qs ++ [p], ps, c7, _, rfl, by simp [e2], rfl, by simp only [List.length_append, List.length_singleton]; omega, hps, hd7, rfl⟩
        rintro acc s ⟨rs, qs, pst, c9, x6, e1, e2, rfl, hlt, hpt, hd9, rfl⟩
        have : rs = [] := by cases rs with | nil => rfl | cons _ _ => cases e1
        subst this
        rw [List.append_nil] at e2
        subst e2
        refine ⟨trivial, ?_⟩
        repeat k_extra "y"
        refine comp_ind (fun rest acc s => ∃ (rs qs : List Str) (ps : List (Str × Int)) (c1 : Cl) (x6 : Sl), rest = sw rs ∧ pl = qs ++ rs ∧ acc = ps.map prD ∧ ps.length ≤ qs.length ∧ (∀ p ∈ ps, 0 ≤ p.2 ∧ p.2 ≤ 10 ^ 6 ∧ p.1.length ≤ 40) ∧ DrC c1 ∧ s = ⟨[.fz (.obj 0), .fz (.lst (sw names)), .fz (.lst (sw pl)), .ow (.lst (sts.map rowD)), .fz (.int (j : Nat)), .ow (.lst (pst.map prD)), x6, x7], [c1]⟩)
          ⟨pl, [], [], _, _, rfl, rfl, rfl, Nat.le_refl _, fun p hp => absurd hp (by simp), by assumption, rfl⟩ ?_ ?_
        rotate_left
        focus
          rintro d rest acc s ih2 ⟨rs, qs, ps, c6, x6, e1, e2, rfl, hpl, hps, hd6, rfl⟩
          cases rs with
          | nil => cases e1
          | cons p rs =>
          cases e1
          have hp40 := h40 p (hsub p (by rw [e2]; simp))
          have hql : qs.length ≤ 5 := by
            have := congrArg List.length e2
            simp only [List.length_append, List.length_cons] at this
            omega
          refine ⟨trivial, ?_⟩
          repeat k_extra "y"
          refine ⟨c6, 3, rfl, rfl, hd6, by decide, by decide, fun a c7 a0 a1 hd7 => ?_⟩
          repeat k_extra "y"
          refine ib rfl (fun h => ?_) (fun h => ?_)
          · repeat k_extra "y"
            refine ⟨c7, 10 ^ 6, rfl, rfl, hd7, by decide, by decide, fun a c8 a0 a1 hd8 => ?_⟩
            repeat k_extra "y"
            refine ih2 _ _ ⟨rs, qs ++ [p], ps ++ [(p, 1 + a)], c8, _, rfl, by simp [e2], by rw [List.map_append] <;> rfl, by simp only [List.length_append, List.length_singleton]; omega, fun y hy => ?_, hd8, rfl⟩
            rcases List.mem_append.mp hy with hy | hy
            · exact hps y hy
            · rw [List.mem_singleton.mp hy]
              exact ⟨by show 0 ≤ 1 + a; omega, by show 1 + a ≤ 10 ^ 6; omega, hp40⟩
          · exact ih2 _ _ ⟨rs, qs ++ [p], ps, c7, _, rfl, by simp [e2], rfl, by simp only [List.length_append, List.length_singleton]; omega, hps, hd7, rfl⟩
        rintro acc s ⟨rs, qs, psg, c9, x6, e1, e2, rfl, hlg, hpg, hd9, rfl⟩
        have : rs = [] := by cases rs with | nil => rfl | cons _ _ => cases e1
        subst this
        rw [List.append_nil] at e2
        subst e2
        refine ⟨trivial, ?_⟩
        repeat k_extra "y"
        refine ih _ ⟨j + 1, m, sts ++ [(names[5 + j]'(by omega), pst, psg)], _, _, _, _, _, _, rfl, by simp only [List.length_append, List.length_singleton]; omega, by omega, ?_, fun r hr2 => ?_, by assumption, .inr rfl, by simp only [List.map_append] <;> rfl⟩
        · rw [List.map_append, e4, List.take_add_one, List.getElem?_drop, List.getElem?_eq_getElem (by omega)]
          rfl
        · rcases List.mem_append.mp hr2 with h | h
          · exact hr r h
          · rw [List.mem_singleton.mp h]
            refine ⟨by show pst.length ≤ 5; omega, by show psg.length ≤ 5; omega, fun p hp => hp.elim (hpt p) (hpg p)⟩
    case hn1 =>
      rintro s ⟨j, m, sts, c4, x2, x4, x5, x6, x7, e1, e2, e3, e4, hr, hd4, hx2, rfl⟩
      have hm0 : m = 0 := by
        cases m with
        | zero => rfl
        | succ m => rw [rangeD_succ] at e1; cases e1
      subst hm0
      have hat : atI (sw names) 10 = some (.str (names[10]'(by omega))) := by
        show atI (sw names) ((10 : Nat) : Int) = _
        exact atI_nat (by simp [show 10 < names.length by omega])
      have e5 : cutD (sw names) (some 10) none = sw (names.drop 10) := by
        rw [show (10 : Int) = ((10 : Nat) : Int) by rfl, cut_drop _ (by rw [List.length_map]; omega)]
        exact List.map_drop.symm
      have fin := q ⟨names[10]'(by omega), pl, sts⟩ (names.drop 10) c4 ⟨by show pl.length ≤ 5; omega, by show 0 < pl.length; omega, by show sts.length ≤ 5; omega, by show 0 < sts.length; omega, hr, h40 _ (List.getElem_mem _), fun p hp => h40 p (hsub p hp), fun r hr2 => ?_, by rw [← hpl]; exact nd.sublist (List.take_sublist _ _), by
        rw [e4]
        exact nd.sublist ((List.take_sublist _ _).trans (List.drop_sublist _ _))⟩ (by rw [List.length_drop]; omega) hd4
      · refine ⟨trivial, ?_⟩
        rcases hx2 with rfl | rfl
        all_goals
          repeat k_extra "y"
          rw [e5]
          repeat k_extra "y"
          exact fin
      · have : r.1 ∈ sts.map (·.1) := List.mem_map.mpr ⟨r, hr2, rfl⟩
        rw [e4] at this
        exact h40 _ (List.mem_of_mem_drop (List.mem_of_mem_take this))
end
end MK



namespace MK
open PySem L2 VL

local macro_rules | `(tactic| k_extra "sd") => `(tactic| first
  | assumption
  | exact Nat.le_of_ble_eq_true rfl
  | ((try simp only [sz16, List.length_append, List.length_cons, List.length_nil, List.length_map, List.length_replicate]); omega)
  | decide
  | decide +kernel)
local macro_rules | `(tactic| k_extra "sd2") => `(tactic| first
  | trivial
  | ((with_reducible show look _ _ _); first | (refine x_lkV ?_; trivial) | (refine' x_lkF ?e ?k; (case e => rfl); (case k => trivial)) | (refine' x_lkO ?e ?k; (case e => rfl); (case k => trivial)))
  | k_extra "sd")
local macro_rules | `(tactic| k_extra "fc") => `(tactic| fail)
local macro_rules | `(tactic| k_extra "yd") => `(tactic| first
  | ((with_reducible show inD _ _ _); first | (refine' y_inT ?f ?g ?k; (case f => rfl); (case g => rfl)) | (refine' y_inL ?f ?g ?k; (case f => rfl); (case g => rfl)) | refine y_inS ?_ | (refine' y_inD ?e ?k; (case e => rfl)))
  | ((with_reducible show ixD _ _ _); first | (refine' y_ixT ?e ?k; (case e => rfl)) | (refine' y_ixL ?e ?k; (case e => rfl)) | (refine' y_ixT ?e ?k; (case e => assumption)) | (refine' y_ixL ?e ?k; (case e => assumption)) | (refine' y_ixT ?e ?k; (case e => exact atI_0)) | (refine' y_ixT ?e ?k; (case e => exact atI_1)) | (refine' y_ixT ?e ?k; (case e => exact atI_2)) | (refine' y_ixL ?e ?k; (case e => exact atI_0)) | (refine' y_ixD ?e ?e2 ?k; (case e => rfl); (case e2 => assumption)))
  | ((with_reducible show slD _ _ _ _); first | refine y_slL ?_ | refine sl_1 ?_ | refine sl_2 ?_ | (refine' y_slT ?n ?k; (case n => decide)) | (refine' y_slS ?l ?k; (case l => k_extra "sd")))
  | ((with_reducible show eqD _ _ _); refine' y_eq ?e ?k; (case e => rfl))
  | ((with_reducible show neD _ _ _); refine' y_ne ?e ?k; (case e => rfl))
  | ((with_reducible show strD _ _); first | refine y_strS ?_ | (refine' y_strI ?l ?k; (case l => k_extra "sd")))
  | ((with_reducible show allD _ _ _); refine y_allT ?_)
  | ((with_reducible show allD _ _ _); refine' y_all ?e ?k; (case e => first | assumption | rfl))
  | ((with_reducible show setD _ _ _ _); first | (refine' y_setL ?e ?k; (case e => rfl)) | (refine' y_setD ?e ?l ?k; (case e => rfl); (case l => k_extra "sd"))))
local macro_rules | `(tactic| k_extra "y") => `(tactic| first
  | ((with_reducible show And _ _); refine' And.intro ?l ?k; (case l => k_extra "sd2"))
  | ((with_reducible show ite _ _ _); first | refine iT (by first | rfl | decide) ?_ | refine iF (by first | decide) ?_ | (refine' iT ?h ?k; (case h => (simp; done))) | (refine' iF ?h ?k; (case h => (simp; done))) | fail)
  | ((with_reducible show br _ _ _); first | refine brT (by first | rfl | decide) ?_ | refine brF (by first | decide) ?_ | (refine' brT ?h ?k; (case h => (simp; done))) | (refine' brF ?h ?k; (case h => (simp; done))))
  | k_extra "yd"
  | k_extra "fc"
  | (fail_if_success (with_reducible show forV _ _ _ _ _ _ _)
     fail_if_success (with_reducible show compV _ _ _ _ _ _ _ _ _)
     fail_if_success (with_reducible show dcompV _ _ _ _ _ _ _ _ _ _)
     fail_if_success (with_reducible show Exists _)
     fail_if_success (with_reducible show And _ _)
     fail_if_success (refine' dupl ?i ?x; (case i => (conv => lhs; whnf)))
     conv => whnf))

local macro_rules | `(tactic| k_extra "sd2") => `(tactic| omega)
local macro_rules | `(tactic| k_extra "sd") => `(tactic| omega)
def formsD : List (Str × Dv) := kf.map fun q => (q.1, fmD q.2)
theorem forms_mem {k : Str} {fm : Fm} (h : kf.lookup k = some fm) : (k, fmD fm) ∈ formsD := List.mem_map.mpr ⟨(k, fm), kf_mem h, rfl⟩
theorem sum_le {ws : List Str} {b : Nat} (h : ∀ a ∈ ws, a.length ≤ b) : (ws.map (·.length)).sum ≤ ws.length * b := by
  induction ws with
  | nil => simp
  | cons a ws ih =>
    have h1 := h a (by simp)
    have h2 := ih fun a ha => h a (by simp [ha])
    rw [List.map_cons, List.sum_cons, List.length_cons, Nat.succ_mul]
    omega
theorem kf_ok : (kf.all fun q => decide (dep q.2 ≤ 7) && (gf q.2 && decide (bnd q.2 ≤ 8000))) = true := by kernel_rfl
theorem kf_facts {k : Str} {fm : Fm} (h : kf.lookup k = some fm) : dep fm ≤ 7 ∧ gf fm = true ∧ bnd fm ≤ 8000 := by
  have := List.all_eq_true.mp kf_ok _ (kf_mem h)
  simpa using this
mutual
/-- nothing in it asks the net -/
def nfree : Fm → Bool
  | .leaf s => !decide (s = "marking") && !decide (s = "box")
  | .none => true
  | .or fs => nfrees fs
  | .list f => nfree f
  | .table _ _ => false
  | .tuple _ fs => nfrees fs
  | .pair fs => nfrees fs
def nfrees : List Fm → Bool
  | [] => true
  | f :: fs => nfree f && nfrees fs
end
theorem nfree_mem {fs : List Fm} {f : Fm} (h : nfrees fs = true) (hf : f ∈ fs) : nfree f = true := by
  induction fs with
  | nil => cases hf
  | cons g fs ih =>
    rw [nfrees, Bool.and_eq_true] at h
    rcases List.mem_cons.mp hf with rfl | hf
    · exact h.1
    · exact ih h.2 hf
mutual
theorem W.free {nd nd' : Dv} : ∀ {fm : Fm} {d : Dv} {ws : List Str}, W nd fm d ws → nfree fm = true → W nd' fm d ws
  | .leaf _, _, _, .net n ok, _ => .net n ok
  | .leaf _, _, _, .box n ok _ hf ks g e hg, h => absurd h (by rcases hf with rfl | rfl <;> decide)
  | .leaf _, _, _, .whole i h, _ => .whole i h
  | .leaf _, _, _, .amount a b h h2, _ => .amount a b h h2
  | .leaf _, _, _, .text _ d hf h, _ => .text _ d hf h
  | .none, _, _, .none, _ => .none
  | .or _, _, _, .or _ rest f thing ws w hl hs hw hc hW, h => .or _ rest f thing ws w hl hs hw hc (W.free hW (nfree_mem (by rw [nfree] at h; exact h) (mem_head hc)))
  | .tuple _ _, _, _, .tuple _ _ things ws hW, h => .tuple _ _ things ws (Ws.free hW (by rw [nfree] at h; exact h))
  | .pair _, _, _, .pair _ things ws hW, h => .pair _ things ws (Ws.free hW (by rw [nfree] at h; exact h))
  | .table _ _, _, _, .table n ok _ _ names ks ws e hn hW, h => by rw [nfree] at h; cases h
  | .list _, _, _, .list _ things ws hW, h => .list _ things ws (Wl.free hW (by rw [nfree] at h; exact h))
theorem Ws.free {nd nd' : Dv} : ∀ {fs : List Fm} {ds : List Dv} {ws : List Str}, Ws nd fs ds ws → nfrees fs = true → Ws nd' fs ds ws
  | [], _, _, .nil, _ => .nil
  | _ :: _, _, _, .cons h1 r, h => by
    rw [nfrees, Bool.and_eq_true] at h
    exact .cons (W.free h1 h.1) (Ws.free r h.2)
theorem Wl.free {nd nd' : Dv} : ∀ {f : Fm} {ds : List Dv} {ws : List Str}, Wl nd f ds ws → nfree f = true → Wl nd' f ds ws
  | _, [], _, .nil, _ => .nil
  | _, _ :: _, _, .cons h1 r, h => .cons (W.free h1 h) (Wl.free r h)
end
section
variable {P : Program} {w : World} {K : PySem.W.Frag} {mg : Str → Option Value} {base : Heap} {f aFORMS : Addr} {fd : FuncData}
def F_show : VSp := fun ds st Q R => ∃ (nd : Dv) (k : Str) (fm : Fm) (thing : Dv) (ws : List Str), ds = [nd, .str k, thing] ∧ kf.lookup k = some fm ∧ W nd fm thing ws ∧ ws.length ≤ 8000 ∧ (∀ a ∈ ws, a.length ≤ 1921) ∧ Q (.fz (.str (Txt.join " " ws))) st
theorem ok_show (F : FnP K "show" s_show f fd) (m : mg "show" = some (.ref f)) (b : Binds K fd ["net", "kind", "thing"] []) (T : Blt mg) (gFORMS : mg "FORMS" = some (.ref aFORMS)) (wFORMS : WDic K w aFORMS formsD)
    (G_words_of : VD P w K mg base 18 "words_of" ["net", "form", "thing"] (F_words 7)) : VD P w K mg base 19 "show" ["net", "kind", "thing"] F_show := by
  refine' mk_v F m b sc_show ?der ?hl ?rd
  case hl => rintro ds st Q R ⟨_, _, _, _, _, rfl, _⟩; rfl
  case der => exact
    fun cdv A outer s H E hr =>
      (vss_one (vs_retF (ve_mr PySem.F.plainAttrs_str PySem.F.slot_str_join PySem.F.type_str_join mr_join (vp_val ve_str) (va_c (ve_callP G_words_of (hr.mono (by omega)) (takes_of (E := E) rfl rfl rfl rfl) (va_c (vnF 0) (va_c (ve_wix gFORMS wFORMS (vnF 1) (fun _ _ => rfl)) (va_c (vnF 2) va_nil)))) va_nil))))
  case rd =>
    rintro ds st Q R ⟨nd, k, fm, thing, ws, rfl, hk, hW, hl, ha, q⟩
    repeat k_extra "y"
    refine ⟨k, fmD fm, rfl, forms_mem hk, ?_⟩
    repeat k_extra "y"
    refine ⟨nd, fm, thing, ws, rfl, (kf_facts hk).1, hW, by omega, ?_⟩
    repeat k_extra "y"
    rw [strsOf_sw]
    have h1 := sum_le ha
    have h2 : (" " : Str).length = 1 := rfl
    refine ⟨by rw [h2]; omega, ?_⟩
    repeat k_extra "y"
    exact q
end
end MK



namespace MK
open PySem L2 VL

local macro_rules | `(tactic| k_extra "sd") => `(tactic| first
  | assumption
  | exact Nat.le_of_ble_eq_true rfl
  | ((try simp only [sz16, List.length_append, List.length_cons, List.length_nil, List.length_map, List.length_replicate]); omega)
  | decide
  | decide +kernel)
local macro_rules | `(tactic| k_extra "sd2") => `(tactic| first
  | trivial
  | ((with_reducible show look _ _ _); first | (refine x_lkV ?_; trivial) | (refine' x_lkF ?e ?k; (case e => rfl); (case k => trivial)) | (refine' x_lkO ?e ?k; (case e => rfl); (case k => trivial)))
  | k_extra "sd")
local macro_rules | `(tactic| k_extra "fc") => `(tactic| fail)
local macro_rules | `(tactic| k_extra "yd") => `(tactic| first
  | ((with_reducible show inD _ _ _); first | (refine' y_inT ?f ?g ?k; (case f => rfl); (case g => rfl)) | (refine' y_inL ?f ?g ?k; (case f => rfl); (case g => rfl)) | refine y_inS ?_ | (refine' y_inD ?e ?k; (case e => rfl)))
  | ((with_reducible show ixD _ _ _); first | (refine' y_ixT ?e ?k; (case e => rfl)) | (refine' y_ixL ?e ?k; (case e => rfl)) | (refine' y_ixT ?e ?k; (case e => assumption)) | (refine' y_ixL ?e ?k; (case e => assumption)) | (refine' y_ixT ?e ?k; (case e => exact atI_0)) | (refine' y_ixT ?e ?k; (case e => exact atI_1)) | (refine' y_ixT ?e ?k; (case e => exact atI_2)) | (refine' y_ixL ?e ?k; (case e => exact atI_0)) | (refine' y_ixD ?e ?e2 ?k; (case e => rfl); (case e2 => assumption)))
  | ((with_reducible show slD _ _ _ _); first | refine y_slL ?_ | refine sl_1 ?_ | refine sl_2 ?_ | (refine' y_slT ?n ?k; (case n => decide)) | (refine' y_slS ?l ?k; (case l => k_extra "sd")))
  | ((with_reducible show eqD _ _ _); refine' y_eq ?e ?k; (case e => rfl))
  | ((with_reducible show neD _ _ _); refine' y_ne ?e ?k; (case e => rfl))
  | ((with_reducible show strD _ _); first | refine y_strS ?_ | (refine' y_strI ?l ?k; (case l => k_extra "sd")))
  | ((with_reducible show allD _ _ _); refine y_allT ?_)
  | ((with_reducible show allD _ _ _); refine' y_all ?e ?k; (case e => first | assumption | rfl))
  | ((with_reducible show setD _ _ _ _); first | (refine' y_setL ?e ?k; (case e => rfl)) | (refine' y_setD ?e ?l ?k; (case e => rfl); (case l => k_extra "sd"))))
local macro_rules | `(tactic| k_extra "y") => `(tactic| first
  | ((with_reducible show And _ _); refine' And.intro ?l ?k; (case l => k_extra "sd2"))
  | ((with_reducible show ite _ _ _); first | refine iT (by first | rfl | decide) ?_ | refine iF (by first | decide) ?_ | (refine' iT ?h ?k; (case h => (simp; done))) | (refine' iF ?h ?k; (case h => (simp; done))) | fail)
  | ((with_reducible show br _ _ _); first | refine brT (by first | rfl | decide) ?_ | refine brF (by first | decide) ?_ | (refine' brT ?h ?k; (case h => (simp; done))) | (refine' brF ?h ?k; (case h => (simp; done))))
  | k_extra "yd"
  | k_extra "fc"
  | (fail_if_success (with_reducible show forV _ _ _ _ _ _ _)
     fail_if_success (with_reducible show compV _ _ _ _ _ _ _ _ _)
     fail_if_success (with_reducible show dcompV _ _ _ _ _ _ _ _ _ _)
     fail_if_success (with_reducible show Exists _)
     fail_if_success (with_reducible show And _ _)
     fail_if_success (refine' dupl ?i ?x; (case i => (conv => lhs; whnf)))
     conv => whnf))

local macro_rules | `(tactic| k_extra "sd2") => `(tactic| omega)
local macro_rules | `(tactic| k_extra "sd") => `(tactic| omega)
def freeK : List Str := ["amount", "name", "number", "names", "net", "entry", "log", "deed", "deeds"]
theorem freeK_ok : (kf.all fun q => !decide (q.1 ∈ freeK) || nfree q.2) = true := by kernel_rfl
theorem kf_free {k : Str} {fm : Fm} (h : kf.lookup k = some fm) (hk : k ∈ freeK) : nfree fm = true := by
  have := List.all_eq_true.mp freeK_ok _ (kf_mem h)
  simpa [hk] using this
theorem any_free {k : Str} {b : Bool} (h : ((freeK.map Dv.str).any fun y => eqF y (.str k)) = b) : b = decide (k ∈ freeK) := by
  rw [← h]
  have e : ∀ x : Str, eqF (.str x) (.str k) = (x == k) := fun _ => rfl
  rw [List.any_map]
  rw [Bool.eq_iff_iff, List.any_eq_true, decide_eq_true_eq]
  constructor
  · rintro ⟨x, hx, hb⟩
    have hb : (x == k) = true := hb
    rw [← eq_of_beq hb]
    exact hx
  · intro hk
    exact ⟨k, hk, beq_self_eq_true k⟩
theorem kf_len : kf.length = 31 := rfl
theorem kf_has {k : Str} (h : k ∈ kf.map (·.1)) : ∃ fm, kf.lookup k = some fm := by
  obtain ⟨⟨a, f⟩, hq, rfl⟩ := List.mem_map.mp h
  have key : ∀ l : List (Str × Fm), (a, f) ∈ l → ∃ fm, l.lookup a = some fm := by
    intro l
    induction l with
    | nil => intro h; cases h
    | cons b l ih =>
      intro h
      obtain ⟨b, g⟩ := b
      rw [List.lookup_cons]
      cases z : a == b with
      | true => exact ⟨g, rfl⟩
      | false =>
        rcases List.mem_cons.mp h with h | h
        · cases h
          rw [beq_self_eq_true] at z
          cases z
        · exact ih h
  exact key kf hq
section
variable {P : Program} {w : World} {K : PySem.W.Frag} {mg : Str → Option Value} {base : Heap} {f aFORMS : Addr} {fd : FuncData}
theorem ok_law (F : FnP K "law" s_law f fd) (T : Blt mg) (G__law_draws : VD P w K mg base 1 "_law_draws" ["script"] F_draws) (G__law_draw : VD P w K mg base 1 "_law_draw" ["draws", "limit"] F_draw) (G__law_some_net : VD P w K mg base 3 "_law_some_net" ["draws"] F_sn) (G__law_kinds : VD P w K mg base 1 "_law_kinds" [] F_kinds)
    (G__law_form : VD P w K mg base 2 "_law_form" ["kind"] F_form) (G__law_made : VD P w K mg base 25 "_law_made" ["draws", "net", "form"] (F_made 7)) (G__law_copy : VD P w K mg base 15 "_law_copy" ["thing"] (F_copy 14)) (G_show : VD P w K mg base 19 "show" ["net", "kind", "thing"] F_show) (G__law_same : VD P w K mg base 15 "_law_same" ["x", "due"] (F_same 14)) :
    FnOk P w K mg base CX0 30 f fd ["script"] (spLawV K) := by
  refine' fn_law F sc_law ?der ?rd
  case der => exact
    fun cdv A outer s H E hr =>
      (vss_cons (vs_set (i := 1) sc_law.nd rfl (by first | exact Or.inl rfl | exact Or.inr rfl) (ve_callP G__law_draws (hr.mono (by omega)) (takes_of (E := E) rfl rfl rfl rfl) (va_c (vnF 0) va_nil)))
       (vss_cons (vs_for (passes_of rfl) rfl (vi_range1 (by rfl) T.range (va_c ve_int va_nil)) (vg_name (i := 2) sc_law.nd rfl (by first | exact Or.inl rfl | exact Or.inr rfl))
        (vss_cons (vs_asg (ve_callP G__law_some_net (hr.mono (by omega)) (takes_of (E := E) rfl rfl rfl rfl) (va_c (vnF 1) va_nil)) (vg_tup (n := 2) rfl (vgs_cons (vg_name (i := 3) sc_law.nd rfl (by first | exact Or.inl rfl | exact Or.inr rfl)) (vgs_cons (vg_name (i := 4) sc_law.nd rfl (by first | exact Or.inl rfl | exact Or.inr rfl)) vgs_nil))))
       (vss_cons (vs_set (i := 5) sc_law.nd rfl (by first | exact Or.inl rfl | exact Or.inr rfl) (ve_call0 G__law_kinds (hr.mono (by omega)) (takes_of (E := E) rfl rfl rfl rfl)))
       (vss_one (vs_for (passes_of rfl) rfl (vi_range1 (by rfl) T.range (va_c (ve_bf bf_len (vpn 5) (by rfl) T.len (by decide +kernel)) va_nil)) (vg_name (i := 6) sc_law.nd rfl (by first | exact Or.inl rfl | exact Or.inr rfl))
        (vss_cons (vs_set (i := 7) sc_law.nd rfl (by first | exact Or.inl rfl | exact Or.inr rfl) (ve_mu PySem.F.plainAttrs_list PySem.F.slot_list_pop PySem.F.type_list_pop mu_pop (vpn 5) (va_c (ve_callP G__law_draw (hr.mono (by omega)) (takes_of (E := E) rfl rfl rfl rfl) (va_c (vnF 1) (va_c (ve_bf bf_len (vpn 5) (by rfl) T.len (by decide +kernel)) va_nil))) va_nil)))
       (vss_cons (vs_asg (ve_callP G__law_made (hr.mono (by omega)) (takes_of (E := E) rfl rfl rfl rfl) (va_c (vnF 1) (va_c (vnF 3) (va_c (ve_callP G__law_form (hr.mono (by omega)) (takes_of (E := E) rfl rfl rfl rfl) (va_c (vnF 7) va_nil)) va_nil)))) (vg_tup (n := 2) rfl (vgs_cons (vg_name (i := 8) sc_law.nd rfl (by first | exact Or.inl rfl | exact Or.inr rfl)) (vgs_cons (vg_name (i := 9) sc_law.nd rfl (by first | exact Or.inl rfl | exact Or.inr rfl)) vgs_nil))))
       (vss_cons (vs_set (i := 10) sc_law.nd rfl (by first | exact Or.inl rfl | exact Or.inr rfl) (ve_callP G__law_copy (hr.mono (by omega)) (takes_of (E := E) rfl rfl rfl rfl) (va_c (ve_lst (va_c (vnF 3) (va_c (vnF 8) va_nil))) va_nil)))
       (vss_cons (vs_ifJ (VW.vc (vw_and (vc_in (hu_of hr) (vnF 7) (vp_val (ve_tup (va_c ve_str (va_c ve_str (va_c ve_str (va_c ve_str (va_c ve_str (va_c ve_str (va_c ve_str (va_c ve_str (va_c ve_str va_nil))))))))))) (by rfl)) (vw_and1 (vc_cmp (ov_eq hr.units) (vnF 2) ve_int (nomark _)))))
        (vss_one (vs_ixF (hu_of hr) ve_non (vpn 10) ve_int))
        vss_nil)
       (vss_cons (vs_set (i := 11) sc_law.nd rfl (by first | exact Or.inl rfl | exact Or.inr rfl) (ve_callP G_show (hr.mono (by omega)) (takes_of (E := E) rfl rfl rfl rfl) (va_c (ve_ix (hu_of hr) (vpn 10) ve_int (fun _ _ => rfl)) (va_c (vnF 7) (va_c (ve_ix (hu_of hr) (vpn 10) ve_int (fun _ _ => rfl)) va_nil)))))
       (vss_cons (vs_if (vc_not (vc_val (ve_callP G__law_same (hr.mono (by omega)) (takes_of (E := E) rfl rfl rfl rfl) (va_c (vnF 11) (va_c (ve_mr PySem.F.plainAttrs_str PySem.F.slot_str_join PySem.F.type_str_join mr_join (vp_val ve_str) (va_c (ve_lc (own := [("word", 12), ("sort", 13)]) (.tu [12, 13]) rfl sc_law.nd (vi_list (vnF 9)) (blkOk_by (own := [("word", 12), ("sort", 13)]) (N := ["script", "draws", "turn", "net", "names", "kinds", "k", "kind", "thing", "words", "given", "text", "word", "sort"]) (sc := (defScope s_law)) (by decide +kernel)) (fun _ _ _ _ _ => (pg_tup (n := 2) rfl (pgs_cons (pg_name (i := 12) sc_law.nd rfl (by first | exact Or.inl rfl | exact Or.inr rfl)) (pgs_cons (pg_name (i := 13) sc_law.nd rfl (by first | exact Or.inl rfl | exact Or.inr rfl)) pgs_nil)))) (fun _ _ _ _ _ => vts_nil) (fun _ _ _ _ _ => (vnF 12))) va_nil)) va_nil)))))
        (vss_one (vs_retF ve_bl))
        vss_nil)
       (vss_one (vs_if (VW.vc (vw_or (vc_not (vc_val (ve_callP G__law_same (hr.mono (by omega)) (takes_of (E := E) rfl rfl rfl rfl) (va_c (ve_ix (hu_of hr) (vpn 10) ve_int (fun _ _ => rfl)) (va_c (vnF 8) va_nil))))) (vw_or1 (VW.vc (vw_and (vc_cmp (ov_eq hr.units) (vnF 2) ve_int (nomark _)) (vw_and1 (vc_not (vc_val (ve_callP G__law_same (hr.mono (by omega)) (takes_of (E := E) rfl rfl rfl rfl) (va_c (ve_ix (hu_of hr) (vpn 10) ve_int (fun _ _ => rfl)) (va_c (vnF 3) va_nil)))))))))))
        (vss_one (vs_retF ve_bl))
        vss_nil)))))))))))))
       (vss_one (vs_retF ve_bl))))
  case rd =>
    intro ns
    repeat k_extra "y"
    refine ⟨ns, rfl, rfl, fun cl hd => ?_⟩
    repeat k_extra "y"
    refine' for_ind (fun rest s => ∃ (j m : Nat) (c1 : Cl) (x2 x3 x4 x5 x6 x7 x8 x9 x10 x11 x12 x13 : Sl), rest = rangeD (j : Int) m ∧ DrC c1 ∧ s = ⟨[.fz (.scr ns), .fz (.obj 0), x2, x3, x4, x5, x6, x7, x8, x9, x10, x11, x12, x13], [c1]⟩)
      ⟨0, 2, cl, _, _, _, _, _, _, _, _, _, _, _, _, rfl, hd, rfl⟩ ?hn1 ?hc1
    case hn1 =>
      rintro s ⟨j, m, c1, x2, x3, x4, x5, x6, x7, x8, x9, x10, x11, x12, x13, e1, hd1, rfl⟩
      refine ⟨trivial, ?_⟩
      repeat k_extra "y"
      try rfl
    case hc1 =>
      rintro d rest s ih ⟨j, m, c1, x2, x3, x4, x5, x6, x7, x8, x9, x10, x11, x12, x13, e1, hd1, rfl⟩
      cases m with
      | zero => cases e1
      | succ m =>
      rw [rangeD_succ] at e1
      cases e1
      refine ⟨trivial, ?_⟩
      repeat k_extra "y"
      refine ⟨c1, rfl, rfl, hd1, fun n names c2 ok hnl hd2 => ?_⟩
      repeat k_extra "y"
      refine' for_ind (fun rest s => ∃ (i l : Nat) (ks : List Str) (c1 : Cl) (x6 x7 x8 x9 x10 x11 x12 x13 : Sl), rest = rangeD (i : Int) l ∧ ks.length = l ∧ l ≤ 31 ∧ (∀ k ∈ ks, k ∈ kf.map (·.1)) ∧ DrC c1 ∧ s = ⟨[.fz (.scr ns), .fz (.obj 0), .fz (.int (j : Nat)), .fz n.d, .fz (.lst (sw names)), .ow (.lst (sw ks)), x6, x7, x8, x9, x10, x11, x12, x13], [c1]⟩)
        ⟨0, 31, kf.map (·.1), c2, _, _, _, _, _, _, _, _, rfl, rfl, by omega, fun k hk => hk, hd2, rfl⟩ ?hn2 ?hc2
      case hn2 =>
        rintro s ⟨i, l, ks, c3, x6, x7, x8, x9, x10, x11, x12, x13, e1, e2, e3, hks, hd3, rfl⟩
        refine ⟨trivial, ?_⟩
        repeat k_extra "y"
        exact ih _ ⟨j + 1, m, c3, _, _, _, _, _, _, _, _, _, _, _, _, rfl, hd3, rfl⟩
      case hc2 =>
        rintro d rest s ih2 ⟨i, l, ks, c3, x6, x7, x8, x9, x10, x11, x12, x13, e1, e2, e3, hks, hd3, rfl⟩
        cases l with
        | zero => cases e1
        | succ l =>
        rw [rangeD_succ] at e1
        cases e1
        have wks : (sw ks).length = ks.length := List.length_map _
        refine ⟨trivial, ?_⟩
        repeat k_extra "y"
        refine ⟨c3, _, rfl, rfl, hd3, by rw [wks]; omega, by rw [wks]; omega, fun v c4 v0 v1 hd4 => ?_⟩
        rw [wks] at v1
        obtain ⟨q, rfl⟩ : ∃ q : Nat, v = (q : Int) := ⟨v.toNat, by omega⟩
        have hq : q < ks.length := by omega
        repeat k_extra "y"
        refine y_pop (y := .str ks[q]) (by rw [wks]; omega) (by simp [hq]) ?_
        have hkq := hks _ (List.getElem_mem hq)
        obtain ⟨fm, hfm⟩ := kf_has hkq
        obtain ⟨f1, f2, f3⟩ := kf_facts hfm
        have hks2 : ∀ k ∈ ks.eraseIdx q, k ∈ kf.map (·.1) := fun k hk => hks k (List.mem_of_mem_eraseIdx hk)
        have hle : (ks.eraseIdx q).length = l := by rw [List.length_eraseIdx_of_lt hq]; omega
        have hsw : (sw ks).eraseIdx q = sw (ks.eraseIdx q) := map_erase
        rw [hsw]
        generalize ks[q] = kd at *
        generalize ks.eraseIdx q = ks2 at *
        repeat k_extra "y"
        refine ⟨kd, fm, rfl, hfm, ?_⟩
        repeat k_extra "y"
        refine ⟨c4, n, fm, rfl, rfl, hd4, ok, f1, f2, by omega, fun thing ws c5 hW wk hl hS hd5 => ?_⟩
        repeat k_extra "y"
        have sn : Sm 13 n.d := (sm_net ok).mono (by omega)
        have st : Sm 13 thing := hS.mono (by omega)
        refine ⟨.lst [n.d, thing], rfl, ⟨by show 2 ≤ 1000; omega, fun x hx => ?_⟩, ?_⟩
        · simp only [List.mem_cons, List.not_mem_nil, or_false] at hx
          rcases hx with rfl | rfl
          · exact sn
          · exact st
        repeat k_extra "y"
        refine x_sifJ (fun f s => f = .nx ∧ ∃ (nd : Dv) (x6 : Sl), W nd fm thing (ws.map (·.1)) ∧ (j = 0 → nd = n.d) ∧ s = ⟨[.fz (.scr ns), .fz (.obj 0), .fz (.int (j : Nat)), .fz n.d, .fz (.lst (sw names)), .ow (.lst (sw ks2)), x6, .fz (.str kd), .fz thing, .fz (.lst (ws.map pw)), .ow (.lst [nd, thing]), x11, x12, x13], [c5]⟩) ?_ fun Q' hJ => ?_
        · rintro f s ⟨rfl, nd, x6, hW2, hnd, rfl⟩
          repeat k_extra "y"
          refine ⟨nd, kd, fm, thing, ws.map (·.1), rfl, hfm, hW2, by rw [List.length_map]; omega, fun a ha => ?_, ?_⟩
          · obtain ⟨b, hb, rfl⟩ := List.mem_map.mp ha
            exact wk b hb
          repeat k_extra "y"
          have hw8 : ws.length ≤ 8000 := by omega
          refine' comp_ind (fun rest acc s => ∃ (rs qs : List (Str × Str)) (x12 x13 : Sl), rest = rs.map pw ∧ ws = qs ++ rs ∧ acc = sw (qs.map (·.1)) ∧ s = ⟨[.fz (.scr ns), .fz (.obj 0), .fz (.int (j : Nat)), .fz n.d, .fz (.lst (sw names)), .ow (.lst (sw ks2)), x6, .fz (.str kd), .fz thing, .fz (.lst (ws.map pw)), .ow (.lst [nd, thing]), .fz (.str (Txt.join " " (ws.map (·.1)))), x12, x13], [c5]⟩)
            ⟨ws, [], _, _, rfl, rfl, rfl, rfl⟩ ?hn3 ?hc3
          case hc3 =>
            rintro d rest acc s ih3 ⟨rs, qs, x12, x13, e1, e2, rfl, rfl⟩
            cases rs with
            | nil => cases e1
            | cons p rs =>
            cases e1
            have hql : (sw (qs.map (·.1))).length ≤ 8000 := by
              rw [List.length_map, List.length_map]
              have := congrArg List.length e2
              simp only [List.length_append, List.length_cons] at this
              omega
            have := sz16
            refine ⟨trivial, ?_⟩
            unfold pw
            repeat k_extra "y"
            exact ih3 _ _ ⟨rs, qs ++ [p], _, _, rfl, by simp [e2], by simp only [sw, List.map_append] <;> rfl, rfl⟩
          case hn3 =>
            rintro acc s ⟨rs, qs, x12, x13, e1, e2, rfl, rfl⟩
            have : rs = [] := by cases rs with | nil => rfl | cons _ _ => cases e1
            subst this
            rw [List.append_nil] at e2
            subst e2
            refine ⟨trivial, ?_⟩
            repeat k_extra "y"
            rw [strsOf_sw]
            have h1 := sum_le (ws := ws.map (·.1)) (b := 1921) fun a ha => by
              obtain ⟨b, hb, rfl⟩ := List.mem_map.mp ha
              exact wk b hb
            have h2 : (" " : Str).length = 1 := rfl
            have h3 : (ws.map (·.1)).length = ws.length := List.length_map _
            refine ⟨by rw [h2]; omega, ?_⟩
            repeat k_extra "y"
            refine ⟨_, rfl, trivial, ?_⟩
            repeat k_extra "y"
            refine ⟨thing, rfl, st.mono (by omega), ?_⟩
            repeat k_extra "y"
            have fin := fun (x6 x11 x12 x13 : Sl) (x10 : Sl) => ih2 ⟨[.fz (.scr ns), .fz (.obj 0), .fz (.int (j : Nat)), .fz n.d, .fz (.lst (sw names)), .ow (.lst (sw ks2)), x6, .fz (.str kd), .fz thing, .fz (.lst (ws.map pw)), x10, x11, x12, x13], [c5]⟩ ⟨i + 1, l, ks2, c5, _, _, _, _, _, _, _, _, rfl, hle, by omega, hks2, hd5, rfl⟩
            refine ib (c := (j : Int) = 0) rfl (fun h => ?_) (fun h => ?_)
            · repeat k_extra "y"
              obtain rfl := hnd (by omega)
              refine ⟨n.d, rfl, sn.mono (by omega), ?_⟩
              repeat k_extra "y"
              exact fin _ _ _ _ _
            · repeat k_extra "y"
              exact fin _ _ _ _ _
        · repeat k_extra "y"
          refine ib (c := kd ∈ freeK) (any_free rfl) (fun h => ?_) (fun h => ?_)
          · repeat k_extra "y"
            refine ib (c := (j : Int) = 1) rfl (fun h2 => ?_) (fun h2 => ?_)
            · repeat k_extra "y"
              exact hJ _ _ ⟨rfl, .non, _, W.free hW (kf_free hfm h), fun e => by omega, rfl⟩
            · repeat k_extra "y"
              exact hJ _ _ ⟨rfl, n.d, _, hW, fun _ => rfl, rfl⟩
          · repeat k_extra "y"
            exact hJ _ _ ⟨rfl, n.d, _, hW, fun _ => rfl, rfl⟩
end
end MK



namespace MK
open PySem L2 VL

local macro_rules | `(tactic| k_extra "sd") => `(tactic| first
  | assumption
  | exact Nat.le_of_ble_eq_true rfl
  | ((try simp only [sz16, List.length_append, List.length_cons, List.length_nil, List.length_map, List.length_replicate]); omega)
  | decide
  | decide +kernel)
local macro_rules | `(tactic| k_extra "sd2") => `(tactic| first
  | trivial
  | ((with_reducible show look _ _ _); first | (refine x_lkV ?_; trivial) | (refine' x_lkF ?e ?k; (case e => rfl); (case k => trivial)) | (refine' x_lkO ?e ?k; (case e => rfl); (case k => trivial)))
  | k_extra "sd")
local macro_rules | `(tactic| k_extra "fc") => `(tactic| fail)
local macro_rules | `(tactic| k_extra "yd") => `(tactic| first
  | ((with_reducible show inD _ _ _); first | (refine' y_inT ?f ?g ?k; (case f => rfl); (case g => rfl)) | (refine' y_inL ?f ?g ?k; (case f => rfl); (case g => rfl)) | refine y_inS ?_ | (refine' y_inD ?e ?k; (case e => rfl)))
  | ((with_reducible show ixD _ _ _); first | (refine' y_ixT ?e ?k; (case e => rfl)) | (refine' y_ixL ?e ?k; (case e => rfl)) | (refine' y_ixT ?e ?k; (case e => assumption)) | (refine' y_ixL ?e ?k; (case e => assumption)) | (refine' y_ixT ?e ?k; (case e => exact atI_0)) | (refine' y_ixT ?e ?k; (case e => exact atI_1)) | (refine' y_ixT ?e ?k; (case e => exact atI_2)) | (refine' y_ixL ?e ?k; (case e => exact atI_0)) | (refine' y_ixD ?e ?e2 ?k; (case e => rfl); (case e2 => assumption)))
  | ((with_reducible show slD _ _ _ _); first | refine y_slL ?_ | refine sl_1 ?_ | refine sl_2 ?_ | (refine' y_slT ?n ?k; (case n => decide)) | (refine' y_slS ?l ?k; (case l => k_extra "sd")))
  | ((with_reducible show eqD _ _ _); refine' y_eq ?e ?k; (case e => rfl))
  | ((with_reducible show neD _ _ _); refine' y_ne ?e ?k; (case e => rfl))
  | ((with_reducible show strD _ _); first | refine y_strS ?_ | (refine' y_strI ?l ?k; (case l => k_extra "sd")))
  | ((with_reducible show allD _ _ _); refine y_allT ?_)
  | ((with_reducible show allD _ _ _); refine' y_all ?e ?k; (case e => first | assumption | rfl))
  | ((with_reducible show setD _ _ _ _); first | (refine' y_setL ?e ?k; (case e => rfl)) | (refine' y_setD ?e ?l ?k; (case e => rfl); (case l => k_extra "sd"))))
local macro_rules | `(tactic| k_extra "y") => `(tactic| first
  | ((with_reducible show And _ _); refine' And.intro ?l ?k; (case l => k_extra "sd2"))
  | ((with_reducible show ite _ _ _); first | refine iT (by first | rfl | decide) ?_ | refine iF (by first | decide) ?_ | (refine' iT ?h ?k; (case h => (simp; done))) | (refine' iF ?h ?k; (case h => (simp; done))) | fail)
  | ((with_reducible show br _ _ _); first | refine brT (by first | rfl | decide) ?_ | refine brF (by first | decide) ?_ | (refine' brT ?h ?k; (case h => (simp; done))) | (refine' brF ?h ?k; (case h => (simp; done))))
  | k_extra "yd"
  | k_extra "fc"
  | (fail_if_success (with_reducible show forV _ _ _ _ _ _ _)
     fail_if_success (with_reducible show compV _ _ _ _ _ _ _ _ _)
     fail_if_success (with_reducible show dcompV _ _ _ _ _ _ _ _ _ _)
     fail_if_success (with_reducible show Exists _)
     fail_if_success (with_reducible show And _ _)
     fail_if_success (refine' dupl ?i ?x; (case i => (conv => lhs; whnf)))
     conv => whnf))

def d_step_names : He.DefD := ⟨("step_names", none), "step_names", "step_names", defArgs s_step_names, defBody s_step_names, defScope s_step_names, [], []⟩
def d_shown_pairs : He.DefD := ⟨("shown_pairs", none), "shown_pairs", "shown_pairs", defArgs s_shown_pairs, defBody s_shown_pairs, defScope s_shown_pairs, [], []⟩
def d_shown_net : He.DefD := ⟨("shown_net", none), "shown_net", "shown_net", defArgs s_shown_net, defBody s_shown_net, defScope s_shown_net, [], []⟩
def d_shown_box : He.DefD := ⟨("shown_box", none), "shown_box", "shown_box", defArgs s_shown_box, defBody s_shown_box, defScope s_shown_box, [], []⟩
def d_shown_whole : He.DefD := ⟨("shown_whole", none), "shown_whole", "shown_whole", defArgs s_shown_whole, defBody s_shown_whole, defScope s_shown_whole, [], []⟩
def d_shown_amount : He.DefD := ⟨("shown_amount", none), "shown_amount", "shown_amount", defArgs s_shown_amount, defBody s_shown_amount, defScope s_shown_amount, [], []⟩
def d_shown_word : He.DefD := ⟨("shown_word", none), "shown_word", "shown_word", defArgs s_shown_word, defBody s_shown_word, defScope s_shown_word, [], []⟩
def d_names_for : He.DefD := ⟨("names_for", none), "names_for", "names_for", defArgs s_names_for, defBody s_names_for, defScope s_names_for, [], []⟩
def d_shown_parts : He.DefD := ⟨("shown_parts", none), "shown_parts", "shown_parts", defArgs s_shown_parts, defBody s_shown_parts, defScope s_shown_parts, [], []⟩
def d_first_words : He.DefD := ⟨("first_words", none), "first_words", "first_words", defArgs s_first_words, defBody s_first_words, defScope s_first_words, [], []⟩
def d_chosen : He.DefD := ⟨("chosen", none), "chosen", "chosen", defArgs s_chosen, defBody s_chosen, defScope s_chosen, [], []⟩
def d_words_of : He.DefD := ⟨("words_of", none), "words_of", "words_of", defArgs s_words_of, defBody s_words_of, defScope s_words_of, [], []⟩
def d_show : He.DefD := ⟨("show", none), "show", "show", defArgs s_show, defBody s_show, defScope s_show, [], []⟩
def d__law_draws : He.DefD := ⟨("_law_draws", none), "_law_draws", "_law_draws", defArgs s__law_draws, defBody s__law_draws, defScope s__law_draws, [], []⟩
def d__law_draw : He.DefD := ⟨("_law_draw", none), "_law_draw", "_law_draw", defArgs s__law_draw, defBody s__law_draw, defScope s__law_draw, [], []⟩
def d__law_same : He.DefD := ⟨("_law_same", none), "_law_same", "_law_same", defArgs s__law_same, defBody s__law_same, defScope s__law_same, [], []⟩
def d__law_copy : He.DefD := ⟨("_law_copy", none), "_law_copy", "_law_copy", defArgs s__law_copy, defBody s__law_copy, defScope s__law_copy, [], []⟩
def d__law_names : He.DefD := ⟨("_law_names", none), "_law_names", "_law_names", defArgs s__law_names, defBody s__law_names, defScope s__law_names, [], []⟩
def d__law_gcd : He.DefD := ⟨("_law_gcd", none), "_law_gcd", "_law_gcd", defArgs s__law_gcd, defBody s__law_gcd, defScope s__law_gcd, [], []⟩
def d__law_kinds : He.DefD := ⟨("_law_kinds", none), "_law_kinds", "_law_kinds", defArgs s__law_kinds, defBody s__law_kinds, defScope s__law_kinds, [], []⟩
def d__law_form : He.DefD := ⟨("_law_form", none), "_law_form", "_law_form", defArgs s__law_form, defBody s__law_form, defScope s__law_form, [], []⟩
def d__law_other_form : He.DefD := ⟨("_law_other_form", none), "_law_other_form", "_law_other_form", defArgs s__law_other_form, defBody s__law_other_form, defScope s__law_other_form, [], []⟩
def d__law_digits : He.DefD := ⟨("_law_digits", none), "_law_digits", "_law_digits", defArgs s__law_digits, defBody s__law_digits, defScope s__law_digits, [], []⟩
def d__law_whole_made : He.DefD := ⟨("_law_whole_made", none), "_law_whole_made", "_law_whole_made", defArgs s__law_whole_made, defBody s__law_whole_made, defScope s__law_whole_made, [], []⟩
def d__law_amount_made : He.DefD := ⟨("_law_amount_made", none), "_law_amount_made", "_law_amount_made", defArgs s__law_amount_made, defBody s__law_amount_made, defScope s__law_amount_made, [], []⟩
def d__law_box_made : He.DefD := ⟨("_law_box_made", none), "_law_box_made", "_law_box_made", defArgs s__law_box_made, defBody s__law_box_made, defScope s__law_box_made, [], []⟩
def d__law_net_made : He.DefD := ⟨("_law_net_made", none), "_law_net_made", "_law_net_made", defArgs s__law_net_made, defBody s__law_net_made, defScope s__law_net_made, [], []⟩
def d__law_plain_made : He.DefD := ⟨("_law_plain_made", none), "_law_plain_made", "_law_plain_made", defArgs s__law_plain_made, defBody s__law_plain_made, defScope s__law_plain_made, [], []⟩
def d__law_made : He.DefD := ⟨("_law_made", none), "_law_made", "_law_made", defArgs s__law_made, defBody s__law_made, defScope s__law_made, [], []⟩
def d__law_some_net : He.DefD := ⟨("_law_some_net", none), "_law_some_net", "_law_some_net", defArgs s__law_some_net, defBody s__law_some_net, defScope s__law_some_net, [], []⟩
def d_law : He.DefD := ⟨("law", none), "law", "law", defArgs s_law, defBody s_law, defScope s_law, [], []⟩
def fnD : List He.DefD := [d_step_names, d_shown_pairs, d_shown_net, d_shown_box, d_shown_whole, d_shown_amount, d_shown_word, d_names_for, d_shown_parts, d_first_words, d_chosen, d_words_of, d_show, d__law_draws, d__law_draw, d__law_same, d__law_copy, d__law_names, d__law_gcd, d__law_kinds, d__law_form, d__law_other_form, d__law_digits, d__law_whole_made, d__law_amount_made, d__law_box_made, d__law_net_made, d__law_plain_made, d__law_made, d__law_some_net, d_law]
def faD : List He.Fa := [.glo "step_names", .glo "shown_pairs", .glo "shown_net", .glo "shown_box", .glo "shown_whole", .glo "shown_amount", .glo "shown_word", .glo "names_for", .glo "shown_parts", .glo "first_words", .glo "chosen", .glo "words_of", .glo "show", .glo "_law_draws", .glo "_law_draw", .glo "_law_same", .glo "_law_copy", .glo "_law_names", .glo "_law_gcd", .glo "_law_kinds", .glo "_law_form", .glo "_law_other_form", .glo "_law_digits", .glo "_law_whole_made", .glo "_law_amount_made", .glo "_law_box_made", .glo "_law_net_made", .glo "_law_plain_made", .glo "_law_made", .glo "_law_some_net", .glo "law", .glo "FORMS", .free "len", .free "int", .free "str", .free "bool", .free "dict", .free "list", .free "tuple", .free "range", .free "isinstance", .free "all", .free "abs", .free "sorted", .free "zip"]
def tabD : List He.Tab := [(fun K => He.ga K "FORMS", ["net", "place", "step", "name", "number", "marking", "box", "amount", "steps", "places", "wall", "markings", "ladder", "times", "names", "goal", "cover", "limits", "bound", "ends", "equation", "live", "pace", "begins", "way", "sound", "fit", "entry", "log", "deed", "deeds"])]
def exB (K : PySem.W.Frag) : Bool := wdB K 12 (He.ga K "FORMS") formsD
abbrev Rw : PySem.W.OpenRow := PySem.W.OpenLaw.row PySem.Challenge.rw_markwalls_k89_texts_that_are_shown
abbrev hk : PySem.W.Hook := Lo.hookA 10 faD fnD [] exB tabD
def ob (s : PySem.W.SharedT) : Lo.AlA := Lo.obsA 10 faD fnD [] exB tabD (HandSHeadRun.getT s)
theorem ob_eq (s : PySem.W.SharedT) : ob s = hk.obs s.abs := Lo.obsA_eq (HandSHeadRun.getT_eq s)
def looseD : List Str := "STEPS" :: "PLACES" :: "WALL" :: "RUNG" :: "LADDER" :: "MARKED" :: "MOVE" :: "FLOORS" :: "ENTRY" :: "DEED" :: "FORMS" :: "step_names" :: "shown_pairs" :: "shown_net" :: "shown_box" :: "shown_whole" :: "shown_amount" :: "shown_word" :: "names_for" :: "shown_parts" :: "first_words" :: "chosen" :: "words_of" :: "show" :: "_law_draws" :: "_law_draw" :: "_law_same" :: "_law_copy" :: "_law_names" :: "_law_gcd" :: "_law_kinds" :: "_law_form" :: "_law_other_form" :: "_law_digits" :: "_law_whole_made" :: "_law_amount_made" :: "_law_box_made" :: "_law_net_made" :: "_law_plain_made" :: "_law_made" :: "_law_some_net" :: []
theorem runF (w : World) : HandSHeadRun.RunEq Rw (PySem.W.view Rw.prog [44]) hk ob 20000 MK.looseD (w.withFollow "special-get-raises" false) := by
  intro os
  kernel_rfl
theorem runT (w : World) : HandSHeadRun.RunEq Rw (PySem.W.view Rw.prog [44]) hk ob 20000 MK.looseD (w.withFollow "special-get-raises" true) := by
  intro os
  kernel_rfl
theorem run (w : World) : HandSHeadRun.RunEq Rw (PySem.W.view Rw.prog [44]) hk ob 20000 MK.looseD w := PySem.W.byRow2 "special-get-raises" (P := fun w => HandSHeadRun.RunEq Rw (PySem.W.view Rw.prog [44]) hk ob 20000 MK.looseD w) runF runT w
theorem facts {P : Program} {w : World} {K : PySem.W.Frag} {h : Heap} {mg : Str → Option Value} {f : Addr} (X : K.In h) (G : h.Ns mainGlobals mg) (hfa : mg ("law" : Str) = some (.ref f)) (cL : Lo.SaysA faD fnD [] exB tabD w K) :
    ∃ fd : FuncData, (∀ (s : Shared) (v : Value), BindsTo s fd ⟨[v], []⟩ [("script", v)]) ∧ ∀ base : Heap, K.In base → base.Ns mainGlobals mg → FnOk P w K mg base CX0 30 f fd ["script"] (spLawV K) := by
  have c := cL.d
  have mB := cL.more
  obtain ⟨es, mm, tD⟩ := cL.tab 0 (t := (fun K => He.ga K "FORMS", _)) rfl
  have wF : WDic K w (He.ga K "FORMS") formsD := wdic_of tD mB
  obtain ⟨fd_step_names, F_step_names⟩ := c.def_ 0 (d := d_step_names) rfl
  obtain ⟨fd_shown_pairs, F_shown_pairs⟩ := c.def_ 1 (d := d_shown_pairs) rfl
  obtain ⟨fd_shown_net, F_shown_net⟩ := c.def_ 2 (d := d_shown_net) rfl
  obtain ⟨fd_shown_box, F_shown_box⟩ := c.def_ 3 (d := d_shown_box) rfl
  obtain ⟨fd_shown_whole, F_shown_whole⟩ := c.def_ 4 (d := d_shown_whole) rfl
  obtain ⟨fd_shown_amount, F_shown_amount⟩ := c.def_ 5 (d := d_shown_amount) rfl
  obtain ⟨fd_shown_word, F_shown_word⟩ := c.def_ 6 (d := d_shown_word) rfl
  obtain ⟨fd_names_for, F_names_for⟩ := c.def_ 7 (d := d_names_for) rfl
  obtain ⟨fd_shown_parts, F_shown_parts⟩ := c.def_ 8 (d := d_shown_parts) rfl
  obtain ⟨fd_first_words, F_first_words⟩ := c.def_ 9 (d := d_first_words) rfl
  obtain ⟨fd_chosen, F_chosen⟩ := c.def_ 10 (d := d_chosen) rfl
  obtain ⟨fd_words_of, F_words_of⟩ := c.def_ 11 (d := d_words_of) rfl
  obtain ⟨fd_show, F_show⟩ := c.def_ 12 (d := d_show) rfl
  obtain ⟨fd__law_draws, F__law_draws⟩ := c.def_ 13 (d := d__law_draws) rfl
  obtain ⟨fd__law_draw, F__law_draw⟩ := c.def_ 14 (d := d__law_draw) rfl
  obtain ⟨fd__law_same, F__law_same⟩ := c.def_ 15 (d := d__law_same) rfl
  obtain ⟨fd__law_copy, F__law_copy⟩ := c.def_ 16 (d := d__law_copy) rfl
  obtain ⟨fd__law_names, F__law_names⟩ := c.def_ 17 (d := d__law_names) rfl
  obtain ⟨fd__law_gcd, F__law_gcd⟩ := c.def_ 18 (d := d__law_gcd) rfl
  obtain ⟨fd__law_kinds, F__law_kinds⟩ := c.def_ 19 (d := d__law_kinds) rfl
  obtain ⟨fd__law_form, F__law_form⟩ := c.def_ 20 (d := d__law_form) rfl
  obtain ⟨fd__law_other_form, F__law_other_form⟩ := c.def_ 21 (d := d__law_other_form) rfl
  obtain ⟨fd__law_digits, F__law_digits⟩ := c.def_ 22 (d := d__law_digits) rfl
  obtain ⟨fd__law_whole_made, F__law_whole_made⟩ := c.def_ 23 (d := d__law_whole_made) rfl
  obtain ⟨fd__law_amount_made, F__law_amount_made⟩ := c.def_ 24 (d := d__law_amount_made) rfl
  obtain ⟨fd__law_box_made, F__law_box_made⟩ := c.def_ 25 (d := d__law_box_made) rfl
  obtain ⟨fd__law_net_made, F__law_net_made⟩ := c.def_ 26 (d := d__law_net_made) rfl
  obtain ⟨fd__law_plain_made, F__law_plain_made⟩ := c.def_ 27 (d := d__law_plain_made) rfl
  obtain ⟨fd__law_made, F__law_made⟩ := c.def_ 28 (d := d__law_made) rfl
  obtain ⟨fd__law_some_net, F__law_some_net⟩ := c.def_ 29 (d := d__law_some_net) rfl
  obtain ⟨fd_law, F_law⟩ := c.def_ 30 (d := d_law) rfl
  have b_step_names : Binds K fd_step_names ["net"] [] := (FunD.bindsN F_step_names fun _ _ _ _ _ _ us hl => match us, hl with | [_], _ => rfl)
  have b_shown_pairs : Binds K fd_shown_pairs ["pairs"] [] := (FunD.bindsN F_shown_pairs fun _ _ _ _ _ _ us hl => match us, hl with | [_], _ => rfl)
  have b_shown_net : Binds K fd_shown_net ["net"] [] := (FunD.bindsN F_shown_net fun _ _ _ _ _ _ us hl => match us, hl with | [_], _ => rfl)
  have b_shown_box : Binds K fd_shown_box ["net", "box"] [] := (FunD.bindsN F_shown_box fun _ _ _ _ _ _ us hl => match us, hl with | [_, _], _ => rfl)
  have b_shown_whole : Binds K fd_shown_whole ["number"] [] := (FunD.bindsN F_shown_whole fun _ _ _ _ _ _ us hl => match us, hl with | [_], _ => rfl)
  have b_shown_amount : Binds K fd_shown_amount ["amount"] [] := (FunD.bindsN F_shown_amount fun _ _ _ _ _ _ us hl => match us, hl with | [_], _ => rfl)
  have b_shown_word : Binds K fd_shown_word ["net", "form", "thing"] [] := (FunD.bindsN F_shown_word fun _ _ _ _ _ _ us hl => match us, hl with | [_, _, _], _ => rfl)
  have b_names_for : Binds K fd_names_for ["net", "which"] [] := (FunD.bindsN F_names_for fun _ _ _ _ _ _ us hl => match us, hl with | [_, _], _ => rfl)
  have b_shown_parts : Binds K fd_shown_parts ["net", "forms", "things"] [] := (FunD.bindsN F_shown_parts fun _ _ _ _ _ _ us hl => match us, hl with | [_, _, _], _ => rfl)
  have b_first_words : Binds K fd_first_words ["form"] [] := (FunD.bindsN F_first_words fun _ _ _ _ _ _ us hl => match us, hl with | [_], _ => rfl)
  have b_chosen : Binds K fd_chosen ["form", "thing"] [] := (FunD.bindsN F_chosen fun _ _ _ _ _ _ us hl => match us, hl with | [_, _], _ => rfl)
  have b_words_of : Binds K fd_words_of ["net", "form", "thing"] [] := (FunD.bindsN F_words_of fun _ _ _ _ _ _ us hl => match us, hl with | [_, _, _], _ => rfl)
  have b_show : Binds K fd_show ["net", "kind", "thing"] [] := (FunD.bindsN F_show fun _ _ _ _ _ _ us hl => match us, hl with | [_, _, _], _ => rfl)
  have b__law_draws : Binds K fd__law_draws ["script"] [] := (FunD.bindsN F__law_draws fun _ _ _ _ _ _ us hl => match us, hl with | [_], _ => rfl)
  have b__law_draw : Binds K fd__law_draw ["draws", "limit"] [] := (FunD.bindsN F__law_draw fun _ _ _ _ _ _ us hl => match us, hl with | [_, _], _ => rfl)
  have b__law_same : Binds K fd__law_same ["x", "due"] [] := (FunD.bindsN F__law_same fun _ _ _ _ _ _ us hl => match us, hl with | [_, _], _ => rfl)
  have b__law_copy : Binds K fd__law_copy ["thing"] [] := (FunD.bindsN F__law_copy fun _ _ _ _ _ _ us hl => match us, hl with | [_], _ => rfl)
  have b__law_names : Binds K fd__law_names ["draws", "many"] [] := (FunD.bindsN F__law_names fun _ _ _ _ _ _ us hl => match us, hl with | [_, _], _ => rfl)
  have b__law_gcd : Binds K fd__law_gcd ["a", "b"] [] := (FunD.bindsN F__law_gcd fun _ _ _ _ _ _ us hl => match us, hl with | [_, _], _ => rfl)
  have b__law_kinds : Binds K fd__law_kinds [] [] := (FunD.bindsN F__law_kinds fun _ _ _ _ _ _ us hl => match us, hl with | [], _ => rfl)
  have b__law_form : Binds K fd__law_form ["kind"] [] := (FunD.bindsN F__law_form fun _ _ _ _ _ _ us hl => match us, hl with | [_], _ => rfl)
  have b__law_other_form : Binds K fd__law_other_form ["kind", "steps", "wall", "ladder", "marked", "entry", "deed"] [] := (FunD.bindsN F__law_other_form fun _ _ _ _ _ _ us hl => match us, hl with | [_, _, _, _, _, _, _], _ => rfl)
  have b__law_digits : Binds K fd__law_digits ["draws"] [] := (FunD.bindsN F__law_digits fun _ _ _ _ _ _ us hl => match us, hl with | [_], _ => rfl)
  have b__law_whole_made : Binds K fd__law_whole_made ["draws"] [] := (FunD.bindsN F__law_whole_made fun _ _ _ _ _ _ us hl => match us, hl with | [_], _ => rfl)
  have b__law_amount_made : Binds K fd__law_amount_made ["draws"] [] := (FunD.bindsN F__law_amount_made fun _ _ _ _ _ _ us hl => match us, hl with | [_], _ => rfl)
  have b__law_box_made : Binds K fd__law_box_made ["draws", "net", "many"] [] := (FunD.bindsN F__law_box_made fun _ _ _ _ _ _ us hl => match us, hl with | [_, _, _], _ => rfl)
  have b__law_net_made : Binds K fd__law_net_made ["net"] [] := (FunD.bindsN F__law_net_made fun _ _ _ _ _ _ us hl => match us, hl with | [_], _ => rfl)
  have b__law_plain_made : Binds K fd__law_plain_made ["draws", "net", "form"] [] := (FunD.bindsN F__law_plain_made fun _ _ _ _ _ _ us hl => match us, hl with | [_, _, _], _ => rfl)
  have b__law_made : Binds K fd__law_made ["draws", "net", "form"] [] := (FunD.bindsN F__law_made fun _ _ _ _ _ _ us hl => match us, hl with | [_, _, _], _ => rfl)
  have b__law_some_net : Binds K fd__law_some_net ["draws"] [] := (FunD.bindsN F__law_some_net fun _ _ _ _ _ _ us hl => match us, hl with | [_], _ => rfl)
  have b_law : Binds K fd_law ["script"] [] := (FunD.bindsN F_law fun _ _ _ _ _ _ us hl => match us, hl with | [_], _ => rfl)
  have g_step_names : mg "step_names" = some (.ref (He.ga K "step_names")) := He.glo_ok X G (c.fact 0 (f := .glo "step_names") rfl)
  have g_shown_pairs : mg "shown_pairs" = some (.ref (He.ga K "shown_pairs")) := He.glo_ok X G (c.fact 1 (f := .glo "shown_pairs") rfl)
  have g_shown_net : mg "shown_net" = some (.ref (He.ga K "shown_net")) := He.glo_ok X G (c.fact 2 (f := .glo "shown_net") rfl)
  have g_shown_box : mg "shown_box" = some (.ref (He.ga K "shown_box")) := He.glo_ok X G (c.fact 3 (f := .glo "shown_box") rfl)
  have g_shown_whole : mg "shown_whole" = some (.ref (He.ga K "shown_whole")) := He.glo_ok X G (c.fact 4 (f := .glo "shown_whole") rfl)
  have g_shown_amount : mg "shown_amount" = some (.ref (He.ga K "shown_amount")) := He.glo_ok X G (c.fact 5 (f := .glo "shown_amount") rfl)
  have g_shown_word : mg "shown_word" = some (.ref (He.ga K "shown_word")) := He.glo_ok X G (c.fact 6 (f := .glo "shown_word") rfl)
  have g_names_for : mg "names_for" = some (.ref (He.ga K "names_for")) := He.glo_ok X G (c.fact 7 (f := .glo "names_for") rfl)
  have g_shown_parts : mg "shown_parts" = some (.ref (He.ga K "shown_parts")) := He.glo_ok X G (c.fact 8 (f := .glo "shown_parts") rfl)
  have g_first_words : mg "first_words" = some (.ref (He.ga K "first_words")) := He.glo_ok X G (c.fact 9 (f := .glo "first_words") rfl)
  have g_chosen : mg "chosen" = some (.ref (He.ga K "chosen")) := He.glo_ok X G (c.fact 10 (f := .glo "chosen") rfl)
  have g_words_of : mg "words_of" = some (.ref (He.ga K "words_of")) := He.glo_ok X G (c.fact 11 (f := .glo "words_of") rfl)
  have g_show : mg "show" = some (.ref (He.ga K "show")) := He.glo_ok X G (c.fact 12 (f := .glo "show") rfl)
  have g__law_draws : mg "_law_draws" = some (.ref (He.ga K "_law_draws")) := He.glo_ok X G (c.fact 13 (f := .glo "_law_draws") rfl)
  have g__law_draw : mg "_law_draw" = some (.ref (He.ga K "_law_draw")) := He.glo_ok X G (c.fact 14 (f := .glo "_law_draw") rfl)
  have g__law_same : mg "_law_same" = some (.ref (He.ga K "_law_same")) := He.glo_ok X G (c.fact 15 (f := .glo "_law_same") rfl)
  have g__law_copy : mg "_law_copy" = some (.ref (He.ga K "_law_copy")) := He.glo_ok X G (c.fact 16 (f := .glo "_law_copy") rfl)
  have g__law_names : mg "_law_names" = some (.ref (He.ga K "_law_names")) := He.glo_ok X G (c.fact 17 (f := .glo "_law_names") rfl)
  have g__law_gcd : mg "_law_gcd" = some (.ref (He.ga K "_law_gcd")) := He.glo_ok X G (c.fact 18 (f := .glo "_law_gcd") rfl)
  have g__law_kinds : mg "_law_kinds" = some (.ref (He.ga K "_law_kinds")) := He.glo_ok X G (c.fact 19 (f := .glo "_law_kinds") rfl)
  have g__law_form : mg "_law_form" = some (.ref (He.ga K "_law_form")) := He.glo_ok X G (c.fact 20 (f := .glo "_law_form") rfl)
  have g__law_other_form : mg "_law_other_form" = some (.ref (He.ga K "_law_other_form")) := He.glo_ok X G (c.fact 21 (f := .glo "_law_other_form") rfl)
  have g__law_digits : mg "_law_digits" = some (.ref (He.ga K "_law_digits")) := He.glo_ok X G (c.fact 22 (f := .glo "_law_digits") rfl)
  have g__law_whole_made : mg "_law_whole_made" = some (.ref (He.ga K "_law_whole_made")) := He.glo_ok X G (c.fact 23 (f := .glo "_law_whole_made") rfl)
  have g__law_amount_made : mg "_law_amount_made" = some (.ref (He.ga K "_law_amount_made")) := He.glo_ok X G (c.fact 24 (f := .glo "_law_amount_made") rfl)
  have g__law_box_made : mg "_law_box_made" = some (.ref (He.ga K "_law_box_made")) := He.glo_ok X G (c.fact 25 (f := .glo "_law_box_made") rfl)
  have g__law_net_made : mg "_law_net_made" = some (.ref (He.ga K "_law_net_made")) := He.glo_ok X G (c.fact 26 (f := .glo "_law_net_made") rfl)
  have g__law_plain_made : mg "_law_plain_made" = some (.ref (He.ga K "_law_plain_made")) := He.glo_ok X G (c.fact 27 (f := .glo "_law_plain_made") rfl)
  have g__law_made : mg "_law_made" = some (.ref (He.ga K "_law_made")) := He.glo_ok X G (c.fact 28 (f := .glo "_law_made") rfl)
  have g__law_some_net : mg "_law_some_net" = some (.ref (He.ga K "_law_some_net")) := He.glo_ok X G (c.fact 29 (f := .glo "_law_some_net") rfl)
  have g_law : mg "law" = some (.ref (He.ga K "law")) := He.glo_ok X G (c.fact 30 (f := .glo "law") rfl)
  have g_FORMS : mg "FORMS" = some (.ref (He.ga K "FORMS")) := He.glo_ok X G (c.fact 31 (f := .glo "FORMS") rfl)
  have B : Blt mg := ⟨He.free_ok X G (c.fact 32 (f := .free "len") rfl), He.free_ok X G (c.fact 33 (f := .free "int") rfl), He.free_ok X G (c.fact 34 (f := .free "str") rfl), He.free_ok X G (c.fact 35 (f := .free "bool") rfl), He.free_ok X G (c.fact 36 (f := .free "dict") rfl), He.free_ok X G (c.fact 37 (f := .free "list") rfl), He.free_ok X G (c.fact 38 (f := .free "tuple") rfl), He.free_ok X G (c.fact 39 (f := .free "range") rfl), He.free_ok X G (c.fact 40 (f := .free "isinstance") rfl), He.free_ok X G (c.fact 41 (f := .free "all") rfl), He.free_ok X G (c.fact 42 (f := .free "abs") rfl), He.free_ok X G (c.fact 43 (f := .free "sorted") rfl), He.free_ok X G (c.fact 44 (f := .free "zip") rfl)⟩
  have e := hfa.symm.trans g_law
  cases e
  have bl := FunD.bindsA (ps := ["script"]) F_law fun _ _ _ _ _ _ us hl => match us, hl with | [_], _ => rfl
  refine ⟨fd_law, fun s v => bl s [v] rfl, fun base _ _ => ?_⟩
  have A1 := ok_pairs (P := P) (w := w) (base := base) F_shown_pairs g_shown_pairs b_shown_pairs B
  have A2 := ok_whole (P := P) (w := w) (base := base) F_shown_whole g_shown_whole b_shown_whole B
  have A3 := ok_amount F_shown_amount g_shown_amount b_shown_amount B A2
  have A4 := ok_stn (P := P) (w := w) (base := base) F_step_names g_step_names b_step_names B
  have A5 := ok_nf F_names_for g_names_for b_names_for B A4
  have A6 := ok_net F_shown_net g_shown_net b_shown_net B A1
  have A7 := ok_box F_shown_box g_shown_box b_shown_box B A1
  have A8 := ok_first (P := P) (w := w) (base := base) F_first_words g_first_words b_first_words B
  have A9 := ok_chosen F_chosen g_chosen b_chosen B A8
  have A10 := ok_word F_shown_word g_shown_word b_shown_word B A6 A7 A2 A3
  have W0 := ok_words0 (P := P) (w := w) (base := base) F_words_of g_words_of b_words_of
  have P0 := ok_parts (n := 0) F_shown_parts g_shown_parts b_shown_parts B W0
  have W1 := ok_words (n := 0) F_words_of g_words_of b_words_of B A10 A9 A5 W0 P0
  have P1 := ok_parts (n := 1) F_shown_parts g_shown_parts b_shown_parts B W1
  have W2 := ok_words (n := 1) F_words_of g_words_of b_words_of B A10 A9 A5 W1 P1
  have P2 := ok_parts (n := 2) F_shown_parts g_shown_parts b_shown_parts B W2
  have W3 := ok_words (n := 2) F_words_of g_words_of b_words_of B A10 A9 A5 W2 P2
  have P3 := ok_parts (n := 3) F_shown_parts g_shown_parts b_shown_parts B W3
  have W4 := ok_words (n := 3) F_words_of g_words_of b_words_of B A10 A9 A5 W3 P3
  have P4 := ok_parts (n := 4) F_shown_parts g_shown_parts b_shown_parts B W4
  have W5 := ok_words (n := 4) F_words_of g_words_of b_words_of B A10 A9 A5 W4 P4
  have P5 := ok_parts (n := 5) F_shown_parts g_shown_parts b_shown_parts B W5
  have W6 := ok_words (n := 5) F_words_of g_words_of b_words_of B A10 A9 A5 W5 P5
  have P6 := ok_parts (n := 6) F_shown_parts g_shown_parts b_shown_parts B W6
  have W7 := ok_words (n := 6) F_words_of g_words_of b_words_of B A10 A9 A5 W6 P6
  have SH := ok_show F_show g_show b_show B g_FORMS wF W7
  have D0 := ok_draws (P := P) (w := w) (base := base) F__law_draws g__law_draws b__law_draws B
  have D1 := ok_draw (P := P) (w := w) (base := base) F__law_draw g__law_draw b__law_draw B
  have D2 := ok_gcd (P := P) (w := w) (base := base) F__law_gcd g__law_gcd b__law_gcd B
  have S0 := ok_same0 (P := P) (w := w) (base := base) F__law_same g__law_same b__law_same
  have S1 := ok_same (n := 0) F__law_same g__law_same b__law_same B S0
  have S2 := ok_same (n := 1) F__law_same g__law_same b__law_same B S1
  have S3 := ok_same (n := 2) F__law_same g__law_same b__law_same B S2
  have S4 := ok_same (n := 3) F__law_same g__law_same b__law_same B S3
  have S5 := ok_same (n := 4) F__law_same g__law_same b__law_same B S4
  have S6 := ok_same (n := 5) F__law_same g__law_same b__law_same B S5
  have S7 := ok_same (n := 6) F__law_same g__law_same b__law_same B S6
  have S8 := ok_same (n := 7) F__law_same g__law_same b__law_same B S7
  have S9 := ok_same (n := 8) F__law_same g__law_same b__law_same B S8
  have S10 := ok_same (n := 9) F__law_same g__law_same b__law_same B S9
  have S11 := ok_same (n := 10) F__law_same g__law_same b__law_same B S10
  have S12 := ok_same (n := 11) F__law_same g__law_same b__law_same B S11
  have S13 := ok_same (n := 12) F__law_same g__law_same b__law_same B S12
  have S14 := ok_same (n := 13) F__law_same g__law_same b__law_same B S13
  have C0 := ok_copy0 (P := P) (w := w) (base := base) F__law_copy g__law_copy b__law_copy
  have C1 := ok_copy (n := 0) F__law_copy g__law_copy b__law_copy B C0
  have C2 := ok_copy (n := 1) F__law_copy g__law_copy b__law_copy B C1
  have C3 := ok_copy (n := 2) F__law_copy g__law_copy b__law_copy B C2
  have C4 := ok_copy (n := 3) F__law_copy g__law_copy b__law_copy B C3
  have C5 := ok_copy (n := 4) F__law_copy g__law_copy b__law_copy B C4
  have C6 := ok_copy (n := 5) F__law_copy g__law_copy b__law_copy B C5
  have C7 := ok_copy (n := 6) F__law_copy g__law_copy b__law_copy B C6
  have C8 := ok_copy (n := 7) F__law_copy g__law_copy b__law_copy B C7
  have C9 := ok_copy (n := 8) F__law_copy g__law_copy b__law_copy B C8
  have C10 := ok_copy (n := 9) F__law_copy g__law_copy b__law_copy B C9
  have C11 := ok_copy (n := 10) F__law_copy g__law_copy b__law_copy B C10
  have C12 := ok_copy (n := 11) F__law_copy g__law_copy b__law_copy B C11
  have C13 := ok_copy (n := 12) F__law_copy g__law_copy b__law_copy B C12
  have C14 := ok_copy (n := 13) F__law_copy g__law_copy b__law_copy B C13
  have N1 := ok_names F__law_names g__law_names b__law_names B D1
  have N2 := ok_kinds (P := P) (w := w) (base := base) F__law_kinds g__law_kinds b__law_kinds B
  have N3 := ok_other (P := P) (w := w) (base := base) F__law_other_form g__law_other_form b__law_other_form B
  have N4 := ok_form F__law_form g__law_form b__law_form B N3
  have M1 := ok_digits F__law_digits g__law_digits b__law_digits B D1
  have M2 := ok_wm F__law_whole_made g__law_whole_made b__law_whole_made B D1 M1
  have M3 := ok_am F__law_amount_made g__law_amount_made b__law_amount_made B D1 M2 D2
  have M4 := ok_bm F__law_box_made g__law_box_made b__law_box_made B D1 M1
  have M5 := ok_nmade F__law_net_made g__law_net_made b__law_net_made B C14
  have M6 := ok_pm F__law_plain_made g__law_plain_made b__law_plain_made B D1 M1 M2 M3 M4 M5 N1
  have MA0 := ok_made0 (P := P) (w := w) (base := base) F__law_made g__law_made b__law_made
  have MA1 := ok_made (k := 0) F__law_made g__law_made b__law_made B D1 M6 MA0
  have MA2 := ok_made (k := 1) F__law_made g__law_made b__law_made B D1 M6 MA1
  have MA3 := ok_made (k := 2) F__law_made g__law_made b__law_made B D1 M6 MA2
  have MA4 := ok_made (k := 3) F__law_made g__law_made b__law_made B D1 M6 MA3
  have MA5 := ok_made (k := 4) F__law_made g__law_made b__law_made B D1 M6 MA4
  have MA6 := ok_made (k := 5) F__law_made g__law_made b__law_made B D1 M6 MA5
  have MA7 := ok_made (k := 6) F__law_made g__law_made b__law_made B D1 M6 MA6
  have SN := ok_sn F__law_some_net g__law_some_net b__law_some_net B D1 N1
  exact ok_law F_law B D0 D1 SN N2 N4 MA7 C14 SH S14
end MK
open PySem PySem.W PySem.Calls PyProof.Rows
theorem PySem.Challenge.cw_markwalls_k89_texts_that_are_shown_holds : PySem.Challenge.rw_markwalls_k89_texts_that_are_shown.Holds := by
  w_on; o_law
  refine HandSHeadRun.head_any (r := OpenLaw.row PySem.Challenge.rw_markwalls_k89_texts_that_are_shown) (q := view (OpenLaw.row PySem.Challenge.rw_markwalls_k89_texts_that_are_shown).prog [44]) (H := MK.hk) (ob := MK.ob) (M := 20000) (loose := MK.looseD) (d := HandSHeadRun.topDef (OpenLaw.row PySem.Challenge.rw_markwalls_k89_texts_that_are_shown).prog 44) (kwd := []) MK.ob_eq
    (by kernel_rfl) (fun s => by kernel_rfl) MK.run (by kernel_rfl) (by kernel_rfl) (by kernel_rfl) (by rfl) (by first | assumption | decide +kernel) (by decide +kernel) ⟨rfl, rfl, rfl, rfl, rfl, by decide +kernel⟩ ?hw ?hc
  case hw => w_witness2
  case hc =>
    refine L2.walk_ofE (l := PySem.Challenge.rw_markwalls_k89_texts_that_are_shown) (n := 63) (k := 30) (x := "script") (CX := L2.CX0) rfl (by decide) (by kernel_rfl) ⟨rfl, by decide, by decide⟩ ?F (fun _ _ _ _ z => z)
    intro w mg fa h Y G hmg0
    obtain ⟨K, KX, c⟩ := Y
    have hmg : mg ("law" : PySem.Str) = some (.ref fa) := by
      have e : (HandSHeadRun.topDef (OpenLaw.row PySem.Challenge.rw_markwalls_k89_texts_that_are_shown).prog 44).name = ("law" : PySem.Str) := by kernel_rfl
      rw [← e]
      exact hmg0
    obtain ⟨fd, hb, hF⟩ := MK.facts (P := (PySem.Challenge.rw_markwalls_k89_texts_that_are_shown).prog) (w := w) KX G hmg c
    exact ⟨K, fd, VL.spLawV K, KX, hb, fun H a ns hl hO hS => ⟨a, ns, rfl, hO, hS, fun _ => rfl⟩, hF⟩


