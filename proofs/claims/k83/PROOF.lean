import PyProof.Rows.All
import Wide.All
import OpenK.AllK
import Wide.FinOn
import KE.KExcSuper
import HandS.ForExc
import HandS.ExcInit
import HandS.ExcField
import HandS.ExcSuper
import KE.KExcIs
import HandS.IsInst
import HandS.ExcValue
import HandS.ExcIs
import HandS.ForMost
import HandS.Defaults
import HandS.Conv
import HandS.StrMore
import HandS.Small
import HandS.TupAny
import HandS.SetFor
import HandS.Zip
import HandS.HeadHook1
import HandS.HeadHook2
import HandS.HeadHook3
import HandS.HeadHook4
import HandS.Evl
import PySem.Challenge.RW_markwalls_k83_a_disk_that_falls
import HandS.Head0
import HandS.Head1
import HandS.Head2
import HandS.HeadEnd
set_option Elab.async false
set_option linter.all false
set_option maxRecDepth 100000
set_option maxHeartbeats 4000000
/-! Low: an own exception class below ValueError (through further own classes) whose __init__ says super().__init__(f); self.f = f. -/
namespace Lo
open PySem PySem.W PySem.Calls PyProof.Rows PySem.HandSPX
def iA (fld : Str) (p1 p2 : Pos) : Arguments := { posonlyargs := [], args := [{ arg := "self", annotation := none, pos := p1 }, { arg := fld, annotation := none, pos := p2 }], vararg := none, kwonlyargs := [], kw_defaults := [], kwarg := none, defaults := [] }
def iB (fld : Str) (a1 a2 a3 a4 a5 a6 b1 b2 b3 b4 : Pos) : List Stmt :=
  [.Expr (.Call (.Attribute (.Call (.Name "super" a1) [] [] a2) "__init__" a3) [.Name fld a4] [] a5) a6, .Assign [.Attribute (.Name "self" b1) fld b2] (.Name fld b3) b4]
def iS (fld : Str) : Scope := { kind := .function, names := [(PySem.Str.ofString "self", .local), (fld, .local), (PySem.Str.ofString "__class__", .free), (PySem.Str.ofString "super", .globalImplicit)], isGenerator := false, isCoroutine := false, more := [] }
/-- the field's name is none of the names that the text uses -/
structure FldOk (fld : Str) : Prop where
  a : (fld == ("self" : Str)) = false
  b : (("__class__" : Str) == fld) = false
  c : (("super" : Str) == fld) = false
  d : (fld == ("__debug__" : Str)) = false
  e : (("self" : Str) == fld) = false
theorem FldOk.look {fld : Str} (o : FldOk fld) : (iS fld).names.lookup fld = some .local := by
  show List.lookup fld [(PySem.Str.ofString "self", NameKind.local), (fld, .local), (PySem.Str.ofString "__class__", .free), (PySem.Str.ofString "super", .globalImplicit)] = _
  have h := o.a
  simp [List.lookup, h]
theorem FldOk.self {fld : Str} : (iS fld).names.lookup ("self" : Str) = some .local := by
  show List.lookup ("self" : Str) [(PySem.Str.ofString "self", NameKind.local), (fld, .local), (PySem.Str.ofString "__class__", .free), (PySem.Str.ofString "super", .globalImplicit)] = _
  simp [List.lookup]
theorem FldOk.cls {fld : Str} (o : FldOk fld) : (iS fld).names.lookup ("__class__" : Str) = some .free := by
  show List.lookup ("__class__" : Str) [(PySem.Str.ofString "self", NameKind.local), (fld, .local), (PySem.Str.ofString "__class__", .free), (PySem.Str.ofString "super", .globalImplicit)] = _
  have h := o.b
  have h2 : (("__class__" : Str) == (PySem.Str.ofString "self")) = false := by decide +kernel
  simp [List.lookup, h, h2]
theorem FldOk.sup {fld : Str} (o : FldOk fld) : (iS fld).names.lookup ("super" : Str) = some .globalImplicit := by
  show List.lookup ("super" : Str) [(PySem.Str.ofString "self", NameKind.local), (fld, .local), (PySem.Str.ofString "__class__", .free), (PySem.Str.ofString "super", .globalImplicit)] = _
  have h := o.c
  have h2 : (("super" : Str) == (PySem.Str.ofString "self")) = false := by decide +kernel
  have h3 : (("super" : Str) == (PySem.Str.ofString "__class__")) = false := by decide +kernel
  simp [List.lookup, h, h2, h3]
/-- what the written part says of the class at C and of its __init__ at fI -/
structure LowC (P : Program) (K : Frag) (C fI : Addr) (fld : Str) : Prop where
  fo : FldOk fld
  cls : ∃ nm q N bs bm sn sub ab col dd k0 k1 k2 k3 k5, K.lookup C = some (excClassObj nm q C N bs bm true sn sub ab col dd k0 k1 k2 k3 k5 "ValueError.__new__") ∧ refsVE bm = true
  sa : findIn K (.ref C) "__setattr__" = some (some (.builtin "object.__setattr__"))
  noN : findIn K (.ref C) fld = some none
  iC : findIn K (.ref C) "__init__" = some (some (.ref fI))
  tI : typeIn K (.ref fI) = some (.type "function")
  kC : keepIn K (.ref C) = true
  exC : subIn K (.ref C) (.type "BaseException") = some true
  veC : subIn K (.ref C) (.type "ValueError") = some true
  tyC : typeIn K (.ref C) = some (.type "type")
  selfC : mroIn K C (.ref C) = some true
  along : ks_superIn K C C "__init__" = some (some (.builtin "ValueError.__init__"))
  sup : nsIn K mainGlobals "super" = some none
  opq : nsIn K cStatics "thirdparty.any" = some none
  top : (P.main.scope.names.lookup ("super" : Str)).isSome = false
  fn : ∃ (oc : Value) (od : Option Addr) (q : Str) (doc pm : Value) (an : Option Addr) (cc cda : Addr) (ct : Value) (osl : Array (Option Value)) (p1 p2 a1 a2 a3 a4 a5 a6 b1 b2 b3 b4 : Pos),
    K.lookup fI = some ⟨oc, od, .func (fnX "__init__" q (iA fld p1 p2) (iB fld a1 a2 a3 a4 a5 a6 b1 b2 b3 b4) (iS fld) [("__class__", cc)] .none .none doc pm an (.ref cda) ct), osl⟩ ∧ codeIn K (.ref cda) q = true ∧
    (∀ u v : Value, bindArgs (fnX "__init__" q (iA fld p1 p2) (iB fld a1 a2 a3 a4 a5 a6 b1 b2 b3 b4) (iS fld) [("__class__", cc)] .none .none doc pm an (.ref cda) ct) ⟨[u, v], []⟩ = pure [((PySem.Str.ofString "self" : Str), u), (fld, v)]) ∧
    (∀ env : Env, ∃ pl : Sem Bool, eval (.Call (.Attribute (.Call (.Name "super" a1) [] [] a2) "__init__" a3) [.Name fld a4] [] a5) env = (do
      let ov ← attributeBase (.Call (.Name "super" a1) [] [] a2) "__init__" env (eval (.Call (.Name "super" a1) [] [] a2) env)
      standAt a3.atName
      let (f, first) ← holding [ov] (getMethod ov "__init__" pl)
      callWith a5 f first (backTo a5 (starEach [.Name fld a4] env)) [])) ∧
    (∃ ccl cdd vs ccs file tf, K.lookup cda = some ⟨ccl, cdd, .fields vs, ccs⟩ ∧ vs[2]? = some (.str file tf) ∧ ((P.main.file : Str) == file) = true) ∧
    (∃ cl cld csl, K.lookup cc = some ⟨cl, cld, .cell (some (.ref C)), csl⟩)
theorem one_size (v : Value) : [v].length ≤ sizeLine := by
  rw [sizeLine_eq]
  exact (by decide : 1 ≤ 16777216)
/-- what __init__ leaves of a fresh exception at x -/
structure InitEnd (h h' : Heap) (x C dx t1 : Addr) (fld : Str) (v : Value) : Prop where
  keep : ∀ b o, b ≠ x → h.get? b = some o → h'.get? b = some o
  obj : h'.get? x = some { cls := .ref C, dict := some dx, data := .fields #[.ref t1, .none, .none, .none, .bool false, .none] }
  dbig : h.objs.size ≤ dx
  dne : dx ≠ x
  ns : h'.Ns1 dx (fun y => if y = fld then some v else none)
structure OwnMade (h h' : Heap) (e C d : Addr) (fld : Str) (v : Value) : Prop where
  keep : ∀ b o, h.get? b = some o → h'.get? b = some o
  new : h.objs.size ≤ e
  obj : ∃ oe vs, h'.get? e = some oe ∧ oe.cls = .ref C ∧ oe.dict = some d ∧ oe.data = .fields vs ∧ vs[1]? = some .none ∧ vs[2]? = some .none ∧ 4 < vs.size
  dbig : h.objs.size ≤ d
  dne : d ≠ e
  ns : h'.Ns1 d (fun y => if y = fld then some v else none)
section
variable {prog : Program} {w : World} {A : Around} {E : Value → Shared → Prop} {h : Heap} {g : Array GenState} {d : Drawn} {t : Nat} {os : OsState}
variable {nm q : Str} {C N : Addr} {bs bm : List Value} {hdct : Bool} {sn : List Str} {sub : List Value} {ab : Bool} {col : Option Bool} {dd : Option Addr} {k0 k1 k2 k3 k5 : Option Value}
theorem call_mw {u e t0 : Addr} {rest : List Value} {Q : Value → Shared → Prop}
    (hC : h.get? C = some (excClassObj nm q C N bs bm hdct sn sub ab col dd k0 k1 k2 k3 k5 "ValueError.__new__")) (he : h.get? e = some (excO C t0)) (hu : h.get? u = some (kxs_mw "ValueError.__init__" e)) (hrest : rest.length ≤ sizeLine)
    (hq : ∀ h' t1, (∀ b o, b ≠ e → h.get? b = some o → h'.get? b = some o) → h'.get? e = some (excO C t1) → Q .none ⟨h', g, d, t, os⟩) :
    wpAny (model prog w) A (call (.ref u) rest) Q E ⟨h, g, d, t, os⟩ := by
  refine wpAny_call (codeAny_of_tree ?_)
  show wpAny _ A.in1 (callAny (.ref u) ⟨rest, []⟩) _ _ _
  simp only [callAny]
  refine wpAny_bind (wpAny_load hu ?_)
  simp only [kxs_mw, show (Value.type "method-wrapper" == Value.type "method" || Value.type "method-wrapper" == Value.type "builtin_function_or_method" || Value.type "method-wrapper" == Value.type "method-wrapper") = true by decide, if_true]
  refine KFB.if_so (by decide) ?_
  refine wpAny_bind (ESX.check_bound F.excBase_ValueError hC he rfl ?_)
  refine wpAny_bind (wpAny_pure (wpAny_pure ?_))
  refine ⟨Code.quiet_builtin _ (by decide +kernel), codeAny_builtin F.excBase_ValueError.initEntry ?_⟩
  rw [Around.under_plainId F.excBase_ValueError.init.plain _]
  wp_walk
  refine hq _ h.objs.size (fun b o hb ho => ?_) ?_
  · rw [Heap.get?_update_other _ _ (Ne.symm hb)]
    exact Heap.get?_push_of_some _ ho
  · rw [Heap.get?_update_self _ (Heap.get?_push_of_some _ he) rfl]
    rfl
end
theorem callWith_mw {M : Model} {A : Around} {E : Value → Shared → Prop} {s : Shared} {pos : Pos} {u x : Addr} {env : Env} {e : Expr} {rest : List Expr} {Q : Value → Shared → Prop}
    (h : wpAny M A (spliced (backTo pos (starEach (e :: rest) env))) (fun vs s₁ => KxsAt "ValueError.__init__" u x s₁.heap ∧ wpAny M A (call (.ref u) vs) Q E s₁) E s)
    (he : starEach (e :: rest) env = (false, eval e env) :: starEach rest env) (hplain : (backTo pos (starEach rest env)).any (·.1) = false) :
    wpAny M A (callWith pos (.ref u) [] (backTo pos (starEach (e :: rest) env)) []) Q E s := by
  rw [he] at h ⊢
  have hp : (backTo pos ((false, eval e env) :: starEach rest env)).any (·.1) = false := by
    show (false || (backTo pos (starEach rest env)).any (·.1)) = false
    rw [hplain]
    rfl
  exact kxs_callWith (i := "ValueError.__init__") (x := x) hp (evalArgs_plain h)
section
variable {prog : Program} {w : World} {A : Around} {E : Value → Shared → Prop} {R : Result → Shared → Prop} {s : Shared} {K : Frag} {mg mb : Str → Option Value} {C fI : Addr} {fld : Str}
theorem low_init (T : LowC prog K C fI fld) {x t0 : Addr} {v : Value} (X : K.In s.heap) (hlim : s.heap.NoLimit) (hg : s.heap.Ns mainGlobals mg) (hb : s.heap.Ns builtinsNs mb) (hbb : mb "super" = bootBuiltins "super")
    (hx : s.heap.get? x = some (excO C t0)) (hnx : K.lookup x = none) (hroom : A.depth < recursionLimit)
    (hq : ∀ h' tk dx t1, InitEnd s.heap h' x C dx t1 fld v → R (.ok (.ret .none)) { s with heap := h', toks := tk }) :
    codeAny (model prog w) A (.call (.ref fI) ⟨[.ref x, v], []⟩) R s := by
  obtain ⟨oc, od, q0, doc, pm, an, cc, cda, ct, osl, p1, p2, a1, a2, a3, a4, a5, a6, b1, b2, b3, b4, ho, hcd, hbi, hev, ⟨ccl, cdd, vs, ccs, file, tf, hcode, hvs, hfile⟩, ⟨cl, cld, csl, hcell⟩⟩ := T.fn
  obtain ⟨nm, q, N, bs, bm, sn, sub, ab, col, dd, k0, k1, k2, k3, k5, hC, hbm⟩ := T.cls
  have hcl : clsIn K C = some { name := nm, bases := bs, mro := .ref C :: bm, ns := N, qualname := q, hasDict := true, slotNames := sn, subclasses := sub, abstract := ab, collection := col, hasDel := false } := by unfold clsIn; rw [hC] <;> rfl
  have hxL : s.heap.objs.size ≠ x := Nat.ne_of_gt (Heap.lt_size hx)
  obtain ⟨hp, g, d, t, os⟩ := s
  refine ks_codeAny_call_defAt (fd := fnX "__init__" q0 (iA fld p1 p2) (iB fld a1 a2 a3 a4 a5 a6 b1 b2 b3 b4) (iS fld) [("__class__", cc)] .none .none doc pm an (.ref cda) ct)
    (binds := [("self", .ref x), (fld, v)]) hroom (X _ _ ho) rfl hlim (codeRec_of X hcd) rfl (BindsTo.of_eq (hbi _ _)) (fun y hy => ?_) (fun y hy => ?_) (fun h₁ hns k => ?_) rfl rfl rfl
  · have hy' : y ∈ [(PySem.Str.ofString "self", NameKind.local), (fld, .local), (PySem.Str.ofString "__class__", .free), (PySem.Str.ofString "super", .globalImplicit)] := hy
    rcases List.mem_cons.mp hy' with rfl | hy'
    · show NameKind.local ≠ NameKind.cell; decide
    rcases List.mem_cons.mp hy' with rfl | hy'
    · show NameKind.local ≠ NameKind.cell; decide
    rcases List.mem_cons.mp hy' with rfl | hy'
    · show NameKind.free ≠ NameKind.cell; decide
    rcases List.mem_cons.mp hy' with rfl | hy'
    · show NameKind.globalImplicit ≠ NameKind.cell; decide
    cases hy'
  · rcases List.mem_cons.mp hy with rfl | hy
    · exact FldOk.self
    rcases List.mem_cons.mp hy with rfl | hy
    · exact T.fo.look
    cases hy
  · have k' : ∀ b o, hp.get? b = some o → h₁.get? b = some o := k
    have kb : (fun y => List.lookup y (List.reverse [((PySem.Str.ofString "self" : Str), Value.ref x), (fld, v)])) ("self" : Str) = some (.ref x) := by
      have e := T.fo.e
      show List.lookup ("self" : Str) [(fld, v), ((PySem.Str.ofString "self" : Str), Value.ref x)] = _
      simp [List.lookup, e]
    have kf : (fun y => List.lookup y (List.reverse [((PySem.Str.ofString "self" : Str), Value.ref x), (fld, v)])) fld = some v := by
      show List.lookup fld [(fld, v), ((PySem.Str.ofString "self" : Str), Value.ref x)] = _
      simp [List.lookup]
    generalize (fun y => List.lookup y (List.reverse [((PySem.Str.ofString "self" : Str), Value.ref x), (fld, v)])) = m at hns kb kf
    show _root_.PySem.wpAt _ _ _ (execs (iB fld a1 a2 a3 a4 a5 a6 b1 b2 b3 b4) _) _ _ _
    obtain ⟨pl, hpl⟩ := hev (callEnv (fnX "__init__" q0 (iA fld p1 p2) (iB fld a1 a2 a3 a4 a5 a6 b1 b2 b3 b4) (iS fld) [("__class__", cc)] .none .none doc pm an (.ref cda) ct) hp.objs.size fI)
    refine ks_wpAt_execs_cons (ks_wpAt_Expr_any (ks_wpAt_MethodCall ?_ hpl))
    have gX : K.In h₁ := X.keeps k'
    have hx₁ : h₁.get? x = some (excO C t0) := k' _ _ hx
    have hC₁ := gX _ _ hC
    have lk : ∀ {y : Str} {z : Value} {ps : Pos} {hh : Heap} {tt : Nat} {Q : Value → Shared → Prop} {E : Value → Shared → Prop} {A : Around}, hh.Ns hp.objs.size m → m y = some z → (iS fld).names.lookup y = some .local → (y == ("__debug__" : Str)) = false → Q z ⟨hh, g, d, tt, os⟩ →
        wpAny (model prog w) A (eval (.Name y ps) (ksEnv q0 (iS fld) hp.objs.size fI (.ref cda) cc)) Q E ⟨hh, g, d, tt, os⟩ := fun hn hz hl hd hq => wpAny_Name (wpAny_loadName_local rfl hl hn hz hq) hd
    refine ks_wpAt_super_base (env := ksEnv q0 (iS fld) hp.objs.size fI (.ref cda) cc) T.fo.sup T.fo.cls (by decide +kernel) rfl (gX _ _ ho) rfl rfl rfl (gX _ _ hcode) rfl hvs hfile T.top ?_
    refine ks_loadName_global rfl T.fo.sup (loadGlobal_builtin (env := ksEnv q0 (iS fld) hp.objs.size fI (.ref cda) cc) (hg.keeps k') (mg_none_of X hg T.sup) (hb.keeps k') (hbb.trans (by decide +kernel : bootBuiltins "super" = some (.type "super"))) ⟨rfl, ?_⟩)
    refine wpAny_loadName_free rfl T.fo.cls rfl ⟨_, gX _ _ hcell, rfl⟩ ?_
    refine wpAny_loadName_local rfl FldOk.self hns kb ?_
    refine ks_wpAny_isType_cls hC₁ rfl ⟨rfl, ?_⟩
    refine ks_wpAny_call_super hC₁ rfl hx₁ rfl (fun c => nofun) (looks_mroIn gX T.selfC) (fun h₂ hso k₂ => ?_)
    have gX₂ : K.In h₂ := gX.keeps k₂
    have hx₂ := k₂ _ _ hx₁
    have I₂ : InstAt h₂ x (excO C t0) C none := ⟨hx₂, rfl, rfl, trivial⟩
    have hI : Looks (model prog w) h₂ (isInstance (.ref x) (.type "ValueError")) true := I₂.type.andThen (looks_subIn gX₂ T.veC)
    have hal := T.along
    unfold ks_superIn at hal
    rw [hcl, Option.bind_some] at hal
    have hmr : Looks (model prog w) h₂ (mroOf (.ref C)) (.ref C :: bm) := (looks_clsIn gX₂ hcl).andThen .now
    refine kxs_getMethod kxs_ValueError hso (looks_opaque gX₂ T.opq) hmr rfl gX₂ hal hI (ks_ne gX₂ I₂ hcl) (by decide +kernel) ?_
    have hmw : (h₂.push (kxs_mw "ValueError.__init__" x)).get? h₂.objs.size = some (kxs_mw "ValueError.__init__" x) := Heap.get?_push_at rfl rfl
    have k₃ : ∀ b o, h₂.get? b = some o → (h₂.push (kxs_mw "ValueError.__init__" x)).get? b = some o := fun b o e => Heap.get?_push_of_some _ e
    generalize hq3 : h₂.push (kxs_mw "ValueError.__init__" x) = h₃ at hmw k₃
    have hx₃ := k₃ _ _ hx₂
    have hns₃ : h₃.Ns hp.objs.size m := (hns.keeps k₂).keeps k₃
    refine callWith_mw (x := x) ?_ rfl rfl
    refine Calls.spliced_cons (lk hns₃ kf T.fo.look T.fo.d (Calls.spliced_nil ⟨hmw, ?_⟩))
    have gX₃ : K.In h₃ := gX₂.keeps k₃
    refine call_mw (gX₃ _ _ hC) hx₃ hmw (one_size v) (fun h₄ t1 k₄ hx₄ => ?_)
    have hxL' : hp.objs.size ≠ x := hxL
    have hns₄ : h₄.Ns hp.objs.size m := by
      obtain ⟨o, es, ep, e1, r⟩ := hns₃
      exact ⟨o, es, ep, k₄ _ _ hxL' e1, r⟩
    have gX₄ : K.In h₄ := fun b o e => by
      by_cases hbx : b = x
      · rw [hbx] at e
        have e' : K.lookup x = some o := e
        rw [hnx] at e'
        cases e'
      · exact k₄ b o hbx (gX₃ b o e)
    refine wpAt_of_wpAny (wpAny_execs_cons (plainObj_wpAny_Assign_Attribute (lk hns₄ kf T.fo.look T.fo.d (lk hns₄ kb FldOk.self (by decide +kernel) ?_))))
    refine set_plain gX₄ (ox := excO C t1) (od := none) ⟨hx₄, rfl, rfl, trivial⟩ T.sa ?_
    refine exc_osa gX₄ hx₄ hcl (show refsVE (.ref C :: bm) = true from hbm) rfl T.noN (fun h₅ tk₅ dx k₅ dn dne hx₅ hn₅ => ?_)
    refine wpAny_execs_nil (hq h₅ tk₅ dx t1 ⟨fun b o hbx e => k₅ b o hbx (k₄ b o hbx (k₃ b o (k₂ b o (k' b o e)))), hx₅, ?_, dne, hn₅⟩)
    have z1 : hp.objs.size < h₁.objs.size := hns.lt
    have z4 : hp.objs.size < h₄.objs.size := hns₄.lt
    exact Nat.le_of_lt (Nat.lt_of_lt_of_le z4 dn)
theorem low_made (T : LowC prog K C fI fld) {v : Value} (X : K.In s.heap) (hlim : s.heap.NoLimit) (hg : s.heap.Ns mainGlobals mg) (hb : s.heap.Ns builtinsNs mb) (hbb : mb "super" = bootBuiltins "super") (hroom : A.depth + 1 < recursionLimit)
    (hq : ∀ h' tk e d, OwnMade s.heap h' e C d fld v → R (.ok (.ret (.ref e))) { s with heap := h', toks := tk }) :
    codeAny (model prog w) A (.call (.ref C) ⟨[v], []⟩) R s := by
  obtain ⟨nm, q, N, bs, bm, sn, sub, ab, col, dd, k0, k1, k2, k3, k5, hC, hbm⟩ := T.cls
  obtain ⟨hp, g, dr, tk, os⟩ := s
  have k : ∀ b o, hp.get? b = some o → ((hp.push (kdv_tup [v])).push (excO C hp.objs.size)).get? b = some o := fun b o e => Heap.get?_push_of_some _ (Heap.get?_push_of_some _ e)
  have hget : ((hp.push (kdv_tup [v])).push (excO C hp.objs.size)).get? (hp.objs.size + 1) = some (excO C hp.objs.size) := by heap_get
  have hnx : K.lookup (hp.objs.size + 1) = none := by
    cases e : K.lookup (hp.objs.size + 1) with
    | none => rfl
    | some o =>
      have z : hp.get? (hp.objs.size + 1) = some o := X _ _ e
      exact absurd (Nat.lt_of_succ_lt (Heap.lt_size z)) (Nat.lt_irrefl _)
  refine call_own F.excBase_ValueError (fun X => refsVE_contains X bm hbm) (X _ _ hC) (looks_findIn X T.iC) (fun self => bind_fn X self T.tI) (one_size v) ?_
  refine low_init (mg := mg) (mb := mb) (s := ⟨(hp.push (kdv_tup [v])).push (excO C hp.objs.size), g, dr, tk, os⟩) T (X.keeps k) (hlim.keeps k) (hg.keeps k) (hb.keeps k) hbb hget hnx ?_ fun h' tk' dx t1 ⟨k', hx, dn, dne, hns⟩ => ?_
  · show A.depth + 1 < recursionLimit
    exact hroom
  · have old : ∀ b o, hp.get? b = some o → h'.get? b = some o := fun b o e => k' b o (Nat.ne_of_lt (Nat.lt_succ_of_lt (Heap.lt_size e))) (k b o e)
    have z : hp.objs.size + 1 + 1 ≤ dx := by
      first
        | (simpa only [Heap.size_push] using dn)
        | exact dn
        | (have q := dn; rw [Heap.size_push, Heap.size_push] at q; exact q)
    exact ⟨rfl, hq h' tk' (hp.objs.size + 1) dx ⟨old, Nat.le_succ _, ⟨_, _, hx, rfl, rfl, rfl, rfl, rfl, (by show 4 < 6; decide)⟩, Nat.le_trans (Nat.le_trans (Nat.le_succ _) (Nat.le_succ _)) z, dne, hns⟩⟩
end
end Lo
namespace L2
open PySem PySem.Spec PyProof.Rows
theorem relO_one {v : V} {v' : Value} {g : Str} (r : RelV v v') (f : Str) : RelO (List.lookup f [(g, v)]) (if f = g then some v' else none) := by
  by_cases hw : f = g
  · subst hw
    rw [if_pos rfl]
    have q : List.lookup f [(f, v)] = some v := by simp [List.lookup]
    rw [q]
    exact r
  · rw [if_neg hw]
    have qw : (f == g) = false := by simpa using hw
    have q2 : List.lookup f [(g, v)] = none := by simp [List.lookup, qw]
    rw [q2]
    trivial
/-- C(e), an exception that is made: its own dict d is new and holds the field -/
def tMkLow (C : Addr) (fld : Str) (ta : TA) : St → Hp → XK → Prop := fun σ H Q => ta σ H fun vs H1 => ∃ v, vs = [v] ∧ ∀ d, H1 d = none → Q (.ref C) (some d) (upd H1 d (.xd [(fld, v)]))
section
variable {X : Cx} {C fI : Addr} {fld : Str}
theorem pmk_low {a : Expr} {ta : TA} {x : Str} {p pos : Pos} {k : Nat} (T : Lo.LowC X.prog X.K C fI fld) (gC : X.mg x = some (.ref C)) (hr : Room k X.A) (ha : PA X [a] ta) (hg : Gl X x := by rfl) (hdb : (x == ("__debug__" : Str)) = false := by decide)
    (he : starEach (a :: []) X.env = (false, eval a X.env) :: starEach [] X.env := by rfl) (hpl : (backTo pos (starEach [] X.env)).any (·.1) = false := by rfl) :
    PMk X (.Call (.Name x p) [a] [] pos) (tMkLow C fld ta) := by
  intro pins s σ H Q I h
  refine wpAny_Call_Name_kw (ld_glob I hg gC ?_ hdb)
  refine PySem.W.callWith_K (h₀ := X.base) I.ok.mod.kin T.kC (thn (ha.run pos pins s σ H _ I h) fun us s1 hh => ?_) he hpl
  obtain ⟨vs, H1, I1, r1, v, ev, q1⟩ := hh
  subst ev
  refine ⟨I1.kIn, ?_⟩
  cases r1 with
  | cons rv rn =>
    rename_i v' us'
    cases rn
    show wpAny _ _ (call (.ref C) [v']) _ _ _
    have hlim := I1.nolimit
    obtain ⟨mb, hb1, hb2⟩ := I1.mod.blt
    have hb3 : s1.heap.Ns builtinsNs mb := hb1.keeps I1.bk
    have hg3 : s1.heap.Ns mainGlobals X.mg := I1.mod.glob.keeps I1.bk
    obtain ⟨hp, g, dr, tk, os⟩ := s1
    refine wpAny_call (Lo.low_made T I1.kIn hlim hg3 hb3 (hb2 "super" (by decide +kernel)) (by have := hr.dp; omega) fun h' tk' e d M => ?_)
    show MkP X pins σ Q (.ref e) ⟨h', g, dr, tk', os⟩
    obtain ⟨oe, fv, hoe, hc, hd, hdat, h1, _, _⟩ := M.obj
    have hns := M.ns
    obtain ⟨G', g1, g2⟩ := restrict h' fun b => decide (b ≠ e)
    have gk : ∀ b, b ≠ e → G'.get? b = h'.get? b := fun b hb => g1 b (decide_eq_true hb)
    have ge : G'.get? e = none := g2 e (by simp)
    have old : ∀ b o, hp.get? b = some o → G'.get? b = some o := fun b o q => (gk b (Nat.ne_of_lt (Nat.lt_of_lt_of_le (Heap.lt_size q) M.new))).trans (M.keep b o q)
    have ob : ObjOk X.prog X.w (upd H1 d (.xd [(fld, v)])) G' d (.xd [(fld, v)]) :=
      ⟨_, hns.at (fun o q => (gk d M.dne).trans q), fun f => relO_one rv f⟩
    have J : Inv X pins σ (upd H1 d (.xd [(fld, v)])) ⟨G', g, dr, tk', os⟩ := I1.laid (t' := tk') old M.dbig ob
    refine ⟨e, oe, fv, ⟨G', g, dr, tk', os⟩, _, .ref C, some d, rfl, J, fun b o q => ?_, ge, hoe, ⟨hc, hd⟩, hdat, h1, ?_, rfl, I1.bare, raises_own T.exC T.tyC, q1 d (I1.hok.fresh M.dbig)⟩
    · by_cases hb : b = e
      · have q' : G'.get? b = some o := q
        rw [hb, ge] at q'; cases q'
      · exact (gk b hb).symm.trans q
    · rw [upd_ne (Ne.symm M.dne)]
      exact I1.hok.fresh M.new
/-- raise C(e) -/
def tRaiseLow (C : Addr) (fld : Str) (W : WX) (ta : TA) : TS := fun _ σ H => tMkLow C fld ta σ H fun cls d H' => W cls d σ H'
theorem ps_raiseLow {a : Expr} {ta : TA} {W : WX} {x : Str} {p pos pos2 : Pos} {k : Nat} (hc : X.calm = true) (T : Lo.LowC X.prog X.K C fI fld) (gC : X.mg x = some (.ref C)) (hr : Room k X.A) (tk : Takes X W) (ha : PA X [a] ta) (hg : Gl X x := by rfl) (hdb : (x == ("__debug__" : Str)) = false := by decide)
    (he : starEach (a :: []) X.env = (false, eval a X.env) :: starEach [] X.env := by rfl) (hpl : (backTo pos (starEach [] X.env)).any (·.1) = false := by rfl) :
    PS X (.Raise (some (.Call (.Name x p) [a] [] pos)) none pos2) (tRaiseLow C fld W ta) := ps_raise hc tk (pmk_low T gC hr ha hg hdb he hpl)
end
end L2

/-! TryAs: try with several except clauses, each with or without a name. -/
namespace L2
open PySem PySem.Spec PyProof.Rows
abbrev Clause := Value × Option Nat × (Addr → Value → Option Addr → TS)
/-- behind a suite whose clause had the name in slot i -/
def Ends.un (D : Ends) (i : Nat) : Ends := { nx := fun σ' H' => D.nx (σ'.set i none) H', rt := D.rt, bk := fun σ' H' => D.bk (σ'.set i none) H', ct := fun σ' H' => D.ct (σ'.set i none) H' }
def wAny (K : PySem.W.Frag) (Wout : WX) (D : Ends) : List Clause → WX
  | [] => Wout
  | (c, none, ts) :: r => fun cls d σ H => ∃ b, PySem.W.exmOne K cls c = some b ∧ (b = true → ∀ a, H a = none → ts a cls d D σ H) ∧ (b = false → wAny K Wout D r cls d σ H)
  | (c, some i, ts) :: r => fun cls d σ H => ∃ b, PySem.W.exmOne K cls c = some b ∧ (b = true → ∀ a, H a = none → ts a cls d (D.un i) (σ.set i (some (.ref a))) H) ∧ (b = false → wAny K Wout D r cls d σ H)
inductive HdA (X : Cx) : List ExceptHandler → List Clause → Prop
  | nil : HdA X [] []
  | cons {x : Str} {c : Value} {ts : Addr → Value → Option Addr → TS} {b₀ : Stmt} {suite : List Stmt} {np pos' : Pos} {hds : List ExceptHandler} {l : List Clause} (hc : Names X x c)
      (hsu : ∀ (a : Addr) (oe : Obj) (cls : Value) (d : Option Addr) (pn : List (Addr × Obj)), Zc cls d oe → (∃ vs, oe.data = .fields vs) → PSs (X.suite a ((a, oe) :: pn)) (b₀ :: suite) (ts a cls d)) (r : HdA X hds l) :
      HdA X (.ExceptHandler (some (.Name x np)) none (b₀ :: suite) pos' :: hds) ((c, none, ts) :: l)
  | consAs {x n : Str} {i : Nat} {c : Value} {ts : Addr → Value → Option Addr → TS} {b₀ : Stmt} {suite : List Stmt} {np pos' : Pos} {hds : List ExceptHandler} {l : List Clause} (hi : X.N[i]? = some n) (hln : X.env.kindOf n = some .local) (hc : Names X x c)
      (hsu : ∀ (a : Addr) (oe : Obj) (cls : Value) (d : Option Addr) (pn : List (Addr × Obj)), Zc cls d oe → (∃ vs, oe.data = .fields vs) → PSs (X.suite a ((a, oe) :: pn)) (b₀ :: suite) (ts a cls d)) (r : HdA X hds l) :
      HdA X (.ExceptHandler (some (.Name x np)) (some n) (b₀ :: suite) pos' :: hds) ((c, some i, ts) :: l)
section
variable {X : Cx} {body : List Stmt} {h₀ : ExceptHandler} {hds : List ExceptHandler} {l : List Clause} {pos : Pos} {tb : WX → TS} {Wout : WX}
theorem ps_try_any (hs : X.stack = X.env :: X.outer) (hf : X.env.frame = some X.env.locals) (hN : X.N.Nodup) (tk : Takes X Wout)
    (hb : ∀ (W : WX) (pn : List (Addr × Obj)) (xe : Value → Shared → Prop), Takes (X.tr pn xe) W → PassesOwn (model X.prog X.w) X.A X.env xe → PSs (X.tr pn xe) body (tb W))
    (hh : HdA X (h₀ :: hds) l) : PS X (.Try body (h₀ :: hds) [] [] pos) (fun D σ H => tb (wAny X.K Wout D l) D σ H) := by
  refine ⟨fun pins s σ H D I h => ?_⟩
  have ok := I.ok
  have hfr : X.A.frames = some (X.env :: X.outer) := by rw [ok.frames, hs]
  refine wpAny_Try_except ?_
  refine wpAny_mono ((hb (wAny X.K Wout D l) (X.pn ++ pins) (fun e s₁ => wpAny (model X.prog X.w) X.A (noteFrame e X.env) (fun _ s₂ => wpAny (model X.prog X.w) X.A (setFlight e none) (fun _ s₃ =>
    wpAny (model X.prog X.w) X.A (handleBy e X.env (h₀ :: hds)) (SP X pins D) X.xe s₃) X.xe s₂) X.xe s₁) (fun u s' xx => ?_) PassesOwn.looking).run [] s σ H D (I.toTry _) h) (fun f s1 hsp => ?_) (fun e s1 he => he)
  · obtain ⟨a, B, sI, pins', σ', H', cls, d, rfl, J', nb, up, sky, na, os, ag, w⟩ := xx
    have J : Inv X pins σ' H' sI := J'.ofTry ok
    have sky' : Sky B (X.env :: X.outer) a (Zc cls d) X.env.locals s'.heap := by rw [← hs]; exact sky
    show wpAny (model X.prog X.w) X.A (noteFrame (.ref a) X.env) _ _ _
    refine Sky.land Zc.steady hfr hf sky' fun h3 fl3 up3 => ?_
    have J3 : Inv X pins σ' H' { s' with heap := h3 } := J.landed nb fl3.1 (up.trans up3) os ag
    obtain ⟨oe3, vs3, he3, hz3, hd3⟩ := fl3.there
    have nfr : a ∉ frs (X.env :: X.outer) := fun hm => by
      obtain ⟨_, o', e', hnf⟩ := fl3.2.2.1.mem hm
      rw [he3] at e'; cases e'
      exact hnf _ hd3
    have nL : a ≠ X.env.locals := fun z => nfr (List.mem_filterMap.mpr ⟨X.env, List.mem_cons_self, by rw [hf, z]⟩)
    have nF : a ∉ X.fs := fun hm => by
      obtain ⟨e, he, q⟩ := List.mem_filterMap.mp hm
      exact nfr (List.mem_filterMap.mpr ⟨e, List.mem_cons_of_mem _ he, q⟩)
    have S3 := J3.suite he3 hd3 na nL nF
    have LT : PySem.W.Looks (model X.prog X.w) h3 (typeOf (.ref a)) cls := fun A Q E s k q => wpAny_typeOf_ref (k _ _ he3) (by rw [hz3.1]; exact q)
    have test : ∀ {x : Str} {c : Value} {np : Pos} {Q : Value → Shared → Prop} {E : Value → Shared → Prop}, Names X x c → Q c { s' with heap := h3 } → wpAny (model X.prog X.w) (X.A.mark (some (.ref a))) (eval (.Name x np) X.env) Q E { s' with heap := h3 } := fun {x c np Q E} hc q => by
      obtain ⟨hg, hdbg, hm | ⟨hm, hv, hnn⟩⟩ := hc
      · exact ld_glob (X := X.suite a ((a, oe3) :: (X.pn ++ pins))) S3 hg hm q hdbg
      · exact ld_blt (X := X.suite a ((a, oe3) :: (X.pn ++ pins))) S3 hg hm hv q hnn hdbg
    have go : ∀ {hds' : List ExceptHandler} {l' : List Clause}, HdA X hds' l' → wAny X.K Wout D l' cls d σ' H' →
        wpAny (model X.prog X.w) X.A (handleBy (.ref a) X.env hds') (SP X pins D) X.xe { s' with heap := h3 } := by
      intro hds' l' hk
      induction hk with
      | nil =>
        intro w
        refine wpAny_handleBy_nil ?_
        obtain ⟨k1, k2, k3, oe, vs, T, oT, ts', he, hz, hd, h1, hr⟩ := id fl3
        unfold PySem.passOn
        refine wpAny_bind (wpAny_field he hd h1 ?_)
        rw [if_neg (show ¬ ((Value.ref T == Value.none) = true) from by simp)]
        have fin : wpAny (model X.prog X.w) X.A (setFlight (.ref a) X.env.frame) (fun _ s4 => wpAny (model X.prog X.w) X.A (throw (.ref a) : Sem Flow) (SP X pins D) X.xe s4) X.xe { s' with heap := h3 } := by
          rw [hf]
          refine HandSPX.setFlight_upZ fl3 fun h4 hh4 up4 => wpAny_throw (tk _ _ ?_)
          exact ⟨a, B, sI, pins, σ', H', cls, d, rfl, J, nb, (up.trans up3).trans up4, .inr (.inr (by rw [hs]; exact hh4)), na, os, ag, w⟩
        first
          | exact wpAny_bind (wpAny_pure (wpAny_bind fin))
          | exact wpAny_bind fin
      | @cons x c ts b₀ suite np pos' hds2 l2 hc hsu r ih =>
        intro w
        obtain ⟨b, hb1, hyes, hno⟩ := w
        refine wpAny_handleBy_cons (codeAny_handlers_test ?_) (by intro q; cases q)
        have LM := PySem.W.exm_one (M := model X.prog X.w) (J3.kIn) LT hb1
        refine test hc (LM.here ?_)
        cases b with
        | true =>
          refine codeAny_handlers_suite (HandSPX.lands_againZ fl3 fun h4 fl4 up4 => ?_)
          have J4 : Inv X pins σ' H' { s' with heap := h4 } := J.landed nb fl4.1 ((up.trans up3).trans up4) os ag
          obtain ⟨oe4, vs4, he4, hz4, hd4⟩ := fl4.there
          have S4 := J4.suite he4 hd4 na nL nF
          refine wpAny_mono ((hsu a oe4 cls d (X.pn ++ pins) hz4 ⟨_, hd4⟩).run [] _ _ H' _ S4 (hyes rfl a na)) (fun f s6 hsp => ?_) (fun _ _ z => False.elim z)
          cases f with
          | next =>
            obtain ⟨σ6, H6, S6, q6⟩ := hsp
            exact ⟨_, _, S6.unsuite ok, q6⟩
          | brk =>
            obtain ⟨σ6, H6, S6, q6⟩ := hsp
            exact ⟨_, _, S6.unsuite ok, q6⟩
          | cont =>
            obtain ⟨σ6, H6, S6, q6⟩ := hsp
            exact ⟨_, _, S6.unsuite ok, q6⟩
          | ret u =>
            obtain ⟨v6, σ6, H6, S6, r6, q6⟩ := hsp
            exact ⟨_, _, _, S6.unsuite ok, r6, q6⟩
        | false => exact ih (hno rfl)
      | @consAs x n i c ts b₀ suite np pos' hds2 l2 hi hln hc hsu r ih =>
        intro w
        obtain ⟨b, hb1, hyes, hno⟩ := w
        refine wpAny_handleBy_cons (codeAny_handlers_test ?_) (by intro q; cases q)
        have LM := PySem.W.exm_one (M := model X.prog X.w) (J3.kIn) LT hb1
        refine test hc (LM.here ?_)
        cases b with
        | true =>
          refine codeAny_handlers_suite_as (HandSPX.lands_againZ fl3 fun h4 fl4 up4 => ?_)
          have J4 : Inv X pins σ' H' { s' with heap := h4 } := J.landed nb fl4.1 ((up.trans up3).trans up4) os ag
          obtain ⟨oe4, vs4, he4, hz4, hd4⟩ := fl4.there
          have S4 := J4.suite he4 hd4 na nL nF
          refine store_ok (X := X.suite a ((a, oe4) :: (X.pn ++ pins))) (v := .ref a) S4 hN hi (.inl hln) rfl (fun s5 S5 => ?_) (.inr hln)
          refine wpAny_mono ((hsu a oe4 cls d (X.pn ++ pins) hz4 ⟨_, hd4⟩).run [] s5 _ H' _ S5 (hyes rfl a na)) (fun f s6 hsp => ?_) (fun _ _ z => False.elim z)
          have end_ : ∀ {σ6 : St} {H6 : Hp} {Q : Shared → Prop}, Inv (X.suite a ((a, oe4) :: (X.pn ++ pins))) [] σ6 H6 s6 → (∀ s7, Inv X pins (σ6.set i none) H6 s7 → Q s7) →
              wpAny (model X.prog X.w) X.A (do bindName X.env n .none; unbindBehindTheSuite X.env n pos') (fun _ s7 => Q s7) X.xe s6 := fun {σ6 H6 Q} S6 hq => gone_ok (S6.unsuite ok) hN hi hln hq
          cases f with
          | next =>
            obtain ⟨σ6, H6, S6, q6⟩ := hsp
            exact end_ S6 fun s7 J7 => ⟨_, _, J7, q6⟩
          | brk =>
            obtain ⟨σ6, H6, S6, q6⟩ := hsp
            exact end_ S6 fun s7 J7 => ⟨_, _, J7, q6⟩
          | cont =>
            obtain ⟨σ6, H6, S6, q6⟩ := hsp
            exact end_ S6 fun s7 J7 => ⟨_, _, J7, q6⟩
          | ret u =>
            obtain ⟨v6, σ6, H6, S6, r6, q6⟩ := hsp
            exact end_ S6 fun s7 J7 => ⟨_, _, _, J7, r6, q6⟩
        | false => exact ih (hno rfl)
    exact go hh w
  · cases f with
    | next =>
      obtain ⟨σ', H', J', q⟩ := hsp
      exact wpAny_execs_nil ⟨σ', H', J'.ofTry ok, q⟩
    | brk =>
      obtain ⟨σ', H', J', q⟩ := hsp
      exact ⟨σ', H', J'.ofTry ok, q⟩
    | cont =>
      obtain ⟨σ', H', J', q⟩ := hsp
      exact ⟨σ', H', J'.ofTry ok, q⟩
    | ret u =>
      obtain ⟨v, σ', H', J', r, q⟩ := hsp
      exact ⟨v, σ', H', J'.ofTry ok, r, q⟩
end
end L2

/-! IsExc: an exception object as a value, isinstance of it with a tuple of classes. -/
namespace L2
open PySem PySem.Spec PyProof.Rows
/-- an exception object with a dict of its own, not raised -/
def ExL (C d a : Addr) : HO := .ext fun h => ∃ (oe : Obj) (vs : Array Value), h.get? a = some oe ∧ Zc (.ref C) (some d) oe ∧ oe.data = .fields vs
theorem exL_ok {P : Program} {w : World} {H : Hp} {h : Heap} {a C d : Addr} {oe : Obj} {vs : Array Value} (e : h.get? a = some oe) (z : Zc (.ref C) (some d) oe) (hd : oe.data = .fields vs) : ObjOk P w H h a (ExL C d a) :=
  ⟨⟨oe, vs, e, z, hd⟩, ⟨oe, e⟩, fun _ _ ⟨o, v, q, r⟩ k => ⟨o, v, k o q, r⟩⟩
section
variable {X : Cx} {C fI : Addr} {fld : Str}
/-- C(e) as a value, C's __init__ as in Low -/
theorem pe_lowV {a : Expr} {ta : TA} {x : Str} {p pos : Pos} {k : Nat} (T : Lo.LowC X.prog X.K C fI fld) (gC : X.mg x = some (.ref C)) (hr : Room k X.A) (ha : PA X [a] ta) (hg : Gl X x := by rfl) (hdb : (x == ("__debug__" : Str)) = false := by decide)
    (he : starEach (a :: []) X.env = (false, eval a X.env) :: starEach [] X.env := by rfl) (hpl : (backTo pos (starEach [] X.env)).any (·.1) = false := by rfl) :
    PE X (.Call (.Name x p) [a] [] pos) (fun σ H Q => ta σ H fun vs H1 => ∃ v, vs = [v] ∧ ∀ e d, H1 e = none → H1 d = none → d ≠ e → Q (.ref e) (upd (upd H1 d (.xd [(fld, v)])) e (ExL C d e))) := by
  refine ⟨fun pins s σ H Q I h => ?_⟩
  refine wpAny_Call_Name_kw (ld_glob I hg gC ?_ hdb)
  refine PySem.W.callWith_K (h₀ := X.base) I.ok.mod.kin T.kC (thn (ha.run pos pins s σ H _ I h) fun us s1 hh => ?_) he hpl
  obtain ⟨vs, H1, I1, r1, v, ev, q1⟩ := hh
  subst ev
  refine ⟨I1.kIn, ?_⟩
  cases r1 with
  | cons rv rn =>
    rename_i v' us'
    cases rn
    show wpAny _ _ (call (.ref C) [v']) _ _ _
    have hlim := I1.nolimit
    obtain ⟨mb, hb1, hb2⟩ := I1.mod.blt
    have hb3 : s1.heap.Ns builtinsNs mb := hb1.keeps I1.bk
    have hg3 : s1.heap.Ns mainGlobals X.mg := I1.mod.glob.keeps I1.bk
    obtain ⟨hp, g, dr, tk, os⟩ := s1
    refine wpAny_call (Lo.low_made T I1.kIn hlim hg3 hb3 (hb2 "super" (by decide +kernel)) (by have := hr.dp; omega) fun h' tk' e d M => ?_)
    obtain ⟨oe, fv, hoe, hc, hd, hdat, _⟩ := M.obj
    have ne1 : hp.get? e = none := Heap.get?_none_of_le M.new
    have hne : H1 e = none := I1.hok.fresh M.new
    have hnd : H1 d = none := I1.hok.fresh M.dbig
    have ob : ObjOk X.prog X.w (upd H1 d (.xd [(fld, v)])) h' d (.xd [(fld, v)]) := ⟨_, M.ns, fun f => relO_one rv f⟩
    have J : Inv X pins σ (upd H1 d (.xd [(fld, v)])) ⟨h', g, dr, tk', os⟩ := I1.laid (t' := tk') M.keep M.dbig ob
    have hne2 : upd H1 d (.xd [(fld, v)]) e = none := by rw [upd_ne (Ne.symm M.dne)]; exact hne
    have U : Un X.fs [] H1 (upd (upd H1 d (.xd [(fld, v)])) e (ExL C d e)) hp h' := {
      keep := fun b o q n _ _ => M.keep b o q
      slot := fun b o q n _ _ => ⟨o.slots, M.keep b o q⟩
      free := fun b o q n _ => by
        rw [upd_ne (Nat.ne_of_lt (Nat.lt_of_lt_of_le (Heap.lt_size q) M.new)), upd_ne (Nat.ne_of_lt (Nat.lt_of_lt_of_le (Heap.lt_size q) M.dbig))]
        exact n
      there := fun b o q _ => ⟨o, M.keep b o q⟩
      tups := fun b xs q => by
        rw [upd_ne (ne_of_none q hne), upd_ne (ne_of_none q hnd)]
        exact q
      frzs := fun b o u q => by
        rw [upd_ne (ne_of_none q hne), upd_ne (ne_of_none q hnd)]
        exact q
      tbls := fun b ps q => ⟨#[], by rw [upd_ne (ne_of_none q hne), upd_ne (ne_of_none q hnd), q]; simp⟩ }
    have hok : HOk X.prog X.w (upd (upd H1 d (.xd [(fld, v)])) e (ExL C d e)) h' := J.hok.laidN (h' := h') (fun b u q => q) hne2 (exL_ok hoe ⟨hc, hd⟩ hdat)
    exact ⟨.ref e, _, I1.un (t' := tk') U hok, rfl, q1 e d hne hnd M.dne⟩
end
/-- what the class must say, so that isinstance asks its instances rightly -/
def xcB (K : PySem.W.Frag) (D : Addr) : Bool := (PySem.W.clsIn K D).isSome && (decide (PySem.W.findIn K (.ref D) "__getattribute__" = some (some (.builtin "BaseException.__getattribute__"))) && (decide (PySem.W.findIn K (.ref D) "__getattr__" = some none) &&
  (decide (PySem.W.subIn K (.ref D) (.type "BaseException") = some true) && (decide (PySem.W.findIn K (.ref D) "__class__" = some (some (.builtin "object.__class__"))) &&
  (decide (PySem.W.specialIn K (.builtin "object.__class__") "__get__" = some (some (.builtin "getset_descriptor.__get__"))) && (decide (PySem.W.takesIn K (.builtin "object.__class__") = some true) && decide (PySem.W.mroIn K D (.type "object") = some true)))))))
theorem xcB_kit {K : PySem.W.Frag} {D x : Addr} {ox : Obj} {od : Option Obj} (h : xcB K D = true) : PySem.W.KitX K (.ref x) (.ref D) (fun h => PySem.W.InstAt h x ox D od) := by
  unfold xcB at h
  simp only [Bool.and_eq_true, decide_eq_true_eq] at h
  obtain ⟨h1, h2, h3, h4, h5, h6, h7, h8⟩ := h
  exact PySem.W.kitx_exc h1 h2 h3 h4 h5 h6 h7 h8
/-- isinstance(e, (c1, ..)), e an exception object that is tracked -/
def rIsX (K : PySem.W.Frag) : List V → Hp → VK → Prop := fun xs H Q => ∃ (D a tp : Addr) (cs : List V) (us : List Value) (b : Bool), xs = [.ref a, .ref tp] ∧ xcB K D = true ∧
  (H a = some (ExO (.ref D) a) ∨ ∃ d fs, H a = some (ExL D d a) ∧ H d = some (.xd fs)) ∧ H tp = some (.tup cs) ∧ Paired ClsV cs us ∧ PySem.W.kitAny K (.ref D) us = some b ∧ Q (.bl b) H
theorem call_isX {X : Cx} : CallR X (.builtin "isinstance") (rIsX X.K) := by
  intro pins s σ H xs us Q I r h
  obtain ⟨D, a, tp, cs, ws, b, rfl, hx, ha, hT, k, e, q⟩ := h
  obtain ⟨u1, u2, rfl, r1, r2⟩ := vals2 r
  cases (show u1 = Value.ref a from r1)
  cases (show u2 = Value.ref tp from r2)
  obtain ⟨_, its, rv, o, h1, h2, n, h3⟩ := (show ObjOk X.prog X.w H s.heap tp (.tup cs) from I.hok tp _ hT)
  have e3 := ClsV.all k rv
  subst e3
  obtain ⟨oc, od, dt, sl⟩ := o
  simp only at h2 h3
  subst h2 h3
  have fin : ∀ (ox : Obj) (od : Option Obj), PySem.W.InstAt s.heap a ox D od → wpAny (model X.prog X.w) X.A (call (.builtin "isinstance") [.ref a, .ref tp]) (EP X pins σ Q) X.xe s := fun ox od J =>
    PySem.W.kia_tup (xcB_kit hx) I.kIn J h1 e (fun z => nomatch z) fun tk => ⟨.bl b, H, I.tok tk, rfl, q⟩
  rcases ha with ha | ⟨d, fs, ha, hd⟩
  · obtain ⟨⟨oe, vs, ho, hz, hdat, _⟩, _, _⟩ := I.hok a _ ha
    exact fin oe none ⟨ho, hz.1, by unfold PySem.W.notCls; rw [hdat] <;> rfl, by rw [hz.2]; trivial⟩
  · obtain ⟨⟨oe, vs, ho, hz, hdat⟩, _, _⟩ := I.hok a _ ha
    have hx2 : ObjOk X.prog X.w H s.heap d (.xd fs) := I.hok d _ hd
    obtain ⟨mA, ⟨od, es, ep, e1, e2, _⟩, _⟩ := hx2
    exact fin oe (some od) ⟨ho, hz.1, by unfold PySem.W.notCls; rw [hdat] <;> rfl, by rw [hz.2]; exact e1⟩
end L2

/-! Kit: defs and methods in bundles, their calls (also where something may be raised); what a heap keeps. -/
namespace L2
open PySem PySem.Spec PyProof.Rows
abbrev CXr (P : Program) (w : World) : CXT := L2.CX P w
/-- the module's name x is a def that keeps sp -/
structure DefOk (P : Program) (w : World) (K : PySem.W.Frag) (mg : Str → Option Value) (base : Heap) (CX : CXT) (k : Nat) (x : Str) (ps : List Str) (sp : Sp) : Prop where
  ex : ∃ f fd, mg x = some (.ref f) ∧ PySem.W.keepIn K (.ref f) = true ∧ Binds K fd ps [] ∧ FnOk P w K mg base CX k f fd ps sp
/-- the class at C has the method m, which keeps sp -/
structure MethOk (P : Program) (w : World) (K : PySem.W.Frag) (mg : Str → Option Value) (base : Heap) (CX : CXT) (k : Nat) (C : Addr) (m : Str) (ps : List Str) (sp : Sp) : Prop where
  ex : ∃ f fd, Meth K C m f ∧ Binds K fd ps [] ∧ FnOk P w K mg base CX k f fd ps sp
theorem DefOk.mono {P : Program} {w : World} {K : PySem.W.Frag} {mg : Str → Option Value} {base : Heap} {CX : CXT} {j k : Nat} {x : Str} {ps : List Str} {sp : Sp} (G : DefOk P w K mg base CX j x ps sp) (h : j ≤ k) : DefOk P w K mg base CX k x ps sp := by
  obtain ⟨f, fd, a, b, c, d⟩ := G.ex
  exact ⟨f, fd, a, b, c, d.mono h⟩
theorem MethOk.mono {P : Program} {w : World} {K : PySem.W.Frag} {mg : Str → Option Value} {base : Heap} {CX : CXT} {j k : Nat} {C : Addr} {m : Str} {ps : List Str} {sp : Sp} (G : MethOk P w K mg base CX j C m ps sp) (h : j ≤ k) : MethOk P w K mg base CX k C m ps sp := by
  obtain ⟨f, fd, a, b, c⟩ := G.ex
  exact ⟨f, fd, a, b, c.mono h⟩
section
variable {X : Cx} {W : WX} {k : Nat} {C : Addr} {ps : List Str} {sp : Sp} {x m : Str} {p pos apos : Pos} {e o : Expr} {es : List Expr} {ta : TE} {t : TA}
theorem pe_D (G : DefOk X.prog X.w X.K X.mg X.base CX0 k x ps sp) (hr : Room k X.A) (ha : PA X (e :: es) t) (hg : Gl X x := by rfl) (hdb : (x == ("__debug__" : Str)) = false := by decide) (he : starEach (e :: es) X.env = (false, eval e X.env) :: starEach es X.env := by rfl)
    (hpl : (backTo pos (starEach es X.env)).any (·.1) = false := by rfl) : PE X (.Call (.Name x p) (e :: es) [] pos) (tCall sp [] E0 t) := by
  obtain ⟨f, fd, hm, hk, hb, F⟩ := G.ex
  exact pe_call F hr hg hm hk hb .nil pass0 ha hdb he hpl
theorem pe_D0 (G : DefOk X.prog X.w X.K X.mg X.base CX0 k x ps sp) (hr : Room k X.A) (hg : Gl X x := by rfl) (hdb : (x == ("__debug__" : Str)) = false := by decide) : PE X (.Call (.Name x p) [] [] pos) (tCall sp [] E0 tNil) := by
  obtain ⟨f, fd, hm, hk, hb, F⟩ := G.ex
  exact pe_call0 F hr hg hm hk hb .nil pass0 hdb
/-- a call that may raise: what is raised goes to W -/
theorem pe_Dx (G : DefOk X.prog X.w X.K X.mg X.base (CXr X.prog X.w) k x ps sp) (hr : Room k X.A) (tk : Takes X W) (ha : PA X (e :: es) t) (hg : Gl X x := by rfl) (hdb : (x == ("__debug__" : Str)) = false := by decide)
    (he : starEach (e :: es) X.env = (false, eval e X.env) :: starEach es X.env := by rfl) (hpl : (backTo pos (starEach es X.env)).any (·.1) = false := by rfl) : PE X (.Call (.Name x p) (e :: es) [] pos) (tCallS sp (WE W) t) := by
  obtain ⟨f, fd, hm, hk, hb, F⟩ := G.ex
  exact pe_callS F hr hg hm hk hb (fun σ => passAt tk σ) ha hdb he hpl
theorem pe_M {pl : Sem Bool} (G : MethOk X.prog X.w X.K X.mg X.base CX0 k C m ps sp) (hr : Room k X.A) (c : Cls X.K C) (he : PE X o ta) (ha : PA X (e :: es) t)
    (hst : starEach (e :: es) X.env = (false, eval e X.env) :: starEach es X.env := by rfl) (hpl : (backTo pos (starEach es X.env)).any (·.1) = false := by rfl)
    (ht : eval (.Call (.Attribute o m apos) (e :: es) [] pos) X.env = (do
      let ov ← eval o X.env
      standAt apos.atName
      let (f, first) ← holding [ov] (getMethod ov m pl)
      callWith pos f first (backTo pos (starEach (e :: es) X.env)) (backToKw pos (keywordEach [] X.env))) := by rfl) :
    PE X (.Call (.Attribute o m apos) (e :: es) [] pos) (tMeth C m sp [] E0 ta t) := by
  obtain ⟨f, fd, hm, hb, F⟩ := G.ex
  exact pe_meth he c hm F hr hb .nil pass0 ha hst hpl ht
theorem pe_M0 {pl : Sem Bool} (G : MethOk X.prog X.w X.K X.mg X.base CX0 k C m ps sp) (hr : Room k X.A) (c : Cls X.K C) (he : PE X o ta)
    (ht : eval (.Call (.Attribute o m apos) [] [] pos) X.env = (do
      let ov ← eval o X.env
      standAt apos.atName
      let (f, first) ← holding [ov] (getMethod ov m pl)
      callWith pos f first (backTo pos (starEach [] X.env)) (backToKw pos (keywordEach [] X.env))) := by rfl) :
    PE X (.Call (.Attribute o m apos) [] [] pos) (tMeth C m sp [] E0 ta tNil) := by
  obtain ⟨f, fd, hm, hb, F⟩ := G.ex
  exact pe_meth0 he c hm F hr hb .nil pass0 ht
/-- o.m(..) of an instance of the class at C, what is raised goes to W -/
def tMethX (C : Addr) (m : Str) (sp : Sp) (E : St → XK) (ta : TE) (t : TA) : TE := fun σ H Q => ta σ H fun x H1 => ∃ a dx fs, x = .ref a ∧ H1 a = some (.ins C dx fs) ∧ fs.lookup m = none ∧
  t σ H1 fun vs H2 => sp (x :: vs) H2 Q (E σ)
theorem pe_Mx {pl : Sem Bool} (G : MethOk X.prog X.w X.K X.mg X.base (CXr X.prog X.w) k C m ps sp) (hr : Room k X.A) (tk : Takes X W) (c : Cls X.K C) (he : PE X o ta) (ha : PA X (e :: es) t)
    (hst : starEach (e :: es) X.env = (false, eval e X.env) :: starEach es X.env := by rfl) (hpl : (backTo pos (starEach es X.env)).any (·.1) = false := by rfl)
    (ht : eval (.Call (.Attribute o m apos) (e :: es) [] pos) X.env = (do
      let ov ← eval o X.env
      standAt apos.atName
      let (f, first) ← holding [ov] (getMethod ov m pl)
      callWith pos f first (backTo pos (starEach (e :: es) X.env)) (backToKw pos (keywordEach [] X.env))) := by rfl) :
    PE X (.Call (.Attribute o m apos) (e :: es) [] pos) (tMethX C m sp (WE W) ta t) := by
  obtain ⟨f, fd, hm, hb, F⟩ := G.ex
  refine ⟨fun pins s σ H Q I h => ?_⟩
  refine PySem.W.methodCall_KW (pl := pl) (thn (he.run pins s σ H _ I h) fun u s1 ⟨x, H1, I1, rx, a, dx, fs, ex, ea, l, q⟩ => ?_) ht
  subst ex
  obtain rfl : u = Value.ref a := rx
  refine getmeth_ok I1 ea c hm l ?_
  refine PySem.W.callWith_K (first := [.ref a]) (h₀ := X.base) I.ok.mod.kin hm.kp (thn (ha.run pos pins s1 σ H1 _ I1 q) fun us s2 ⟨vs, H2, I2, r, q2⟩ => ⟨I2.kIn, ?_⟩) hst hpl
  exact run_fnS (E := WE W) (us := .ref a :: us) (vs := .ref a :: vs) F hr hb (passAt tk σ) I2 (.cons rfl r) q2
theorem pe_Mx0 {pl : Sem Bool} (G : MethOk X.prog X.w X.K X.mg X.base (CXr X.prog X.w) k C m ps sp) (hr : Room k X.A) (tk : Takes X W) (c : Cls X.K C) (he : PE X o ta)
    (ht : eval (.Call (.Attribute o m apos) [] [] pos) X.env = (do
      let ov ← eval o X.env
      standAt apos.atName
      let (f, first) ← holding [ov] (getMethod ov m pl)
      callWith pos f first (backTo pos (starEach [] X.env)) (backToKw pos (keywordEach [] X.env))) := by rfl) :
    PE X (.Call (.Attribute o m apos) [] [] pos) (tMethX C m sp (WE W) ta tNil) := by
  obtain ⟨f, fd, hm, hb, F⟩ := G.ex
  refine ⟨fun pins s σ H Q I h => ?_⟩
  refine PySem.W.methodCall_KW (pl := pl) (thn (he.run pins s σ H _ I h) fun u s1 ⟨x, H1, I1, rx, a, dx, fs, ex, ea, l, q⟩ => ?_) ht
  subst ex
  obtain rfl : u = Value.ref a := rx
  refine getmeth_ok I1 ea c hm l ?_
  exact PySem.W.callWith_K0 (first := [.ref a]) I1.kIn hm.kp (run_fnS (E := WE W) (us := [.ref a]) (vs := [.ref a]) F hr hb (passAt tk σ) I1 (.cons rfl .nil) q)
/-- the statement's end of a def: raise, calls that raise go up -/
theorem takes_up {P : Program} {w : World} {K : PySem.W.Frag} {mg : Str → Option Value} {base : Heap} {N : List Str} {q : Str} {sc : Scope} {f : Addr} {cdv : Value} {A : Around} {outer : List Env} {s : Shared} {H : Hp} {E : XK} :
    Takes (cxOf (CXr P w) P w K mg base N q sc f cdv A outer s H E) (fun cls d _ H => E cls d H) := takes_of rfl rfl rfl rfl
end
theorem PSs.same {X : Cx} {st : List Stmt} {t : TS} (h : PSs X st t) : PSs X st t := h
section
variable {P : Program} {w : World} {K : PySem.W.Frag} {mg : Str → Option Value} {base : Heap}
/-- a def of the text, whose body is given as a term and its reading -/
theorem mk_def {x : Str} {st : Stmt} {f : Addr} {fd : FuncData} {N ps : List Str} {k : Nat} {sp : Sp} (F : FunD K x x (defArgs st) (defBody st) (defScope st) [] [] f fd) (m : mg x = some (.ref f)) (b : Binds K fd ps []) (S : FnScope N ps (defScope st))
    (len : ∀ vs H Q E, sp vs H Q E → vs.length = ps.length)
    (hbody : ∀ (cdv : Value) (A : Around) (outer : List Env) (s : Shared) (H : Hp) (vs : List V) (Q : VK) (E : XK), Room k (A.deeper (envOfC x (defScope st) s.heap.objs.size f cdv)) → sp vs H Q E →
      ∃ t, PSs (cxOf CX0 P w K mg base N x (defScope st) f cdv A outer s H E) (defBody st) t ∧ t { nx := fun _ H' => Q .non H', rt := Q } (start N vs) H) : DefOk P w K mg base CX0 (k + 1) x ps sp :=
  ⟨f, fd, m, F.kp, b, F.ok S len hbody⟩
theorem mk_defX {x : Str} {st : Stmt} {f : Addr} {fd : FuncData} {N ps : List Str} {k : Nat} {sp : Sp} (F : FunD K x x (defArgs st) (defBody st) (defScope st) [] [] f fd) (m : mg x = some (.ref f)) (b : Binds K fd ps []) (S : FnScope N ps (defScope st))
    (len : ∀ vs H Q E, sp vs H Q E → vs.length = ps.length)
    (hbody : ∀ (cdv : Value) (A : Around) (outer : List Env) (s : Shared) (H : Hp) (vs : List V) (Q : VK) (E : XK), Room k (A.deeper (envOfC x (defScope st) s.heap.objs.size f cdv)) → sp vs H Q E →
      ∃ t, PSs (cxOf (CXr P w) P w K mg base N x (defScope st) f cdv A outer s H E) (defBody st) t ∧ t { nx := fun _ H' => Q .non H', rt := Q } (start N vs) H) : DefOk P w K mg base (CXr P w) (k + 1) x ps sp :=
  ⟨f, fd, m, F.kp, b, F.ok S len hbody⟩
theorem mk_meth {C : Addr} {m q : Str} {st : Stmt} {f : Addr} {fd : FuncData} {N ps : List Str} {k : Nat} {sp : Sp} (F : FunD K m q (defArgs st) (defBody st) (defScope st) [] [] f fd) (M : Meth K C m f) (b : Binds K fd ps []) (S : FnScope N ps (defScope st))
    (len : ∀ vs H Q E, sp vs H Q E → vs.length = ps.length)
    (hbody : ∀ (cdv : Value) (A : Around) (outer : List Env) (s : Shared) (H : Hp) (vs : List V) (Q : VK) (E : XK), Room k (A.deeper (envOfC q (defScope st) s.heap.objs.size f cdv)) → sp vs H Q E →
      ∃ t, PSs (cxOf CX0 P w K mg base N q (defScope st) f cdv A outer s H E) (defBody st) t ∧ t { nx := fun _ H' => Q .non H', rt := Q } (start N vs) H) : MethOk P w K mg base CX0 (k + 1) C m ps sp :=
  ⟨f, fd, M, b, F.ok S len hbody⟩
theorem mk_methX {C : Addr} {m q : Str} {st : Stmt} {f : Addr} {fd : FuncData} {N ps : List Str} {k : Nat} {sp : Sp} (F : FunD K m q (defArgs st) (defBody st) (defScope st) [] [] f fd) (M : Meth K C m f) (b : Binds K fd ps []) (S : FnScope N ps (defScope st))
    (len : ∀ vs H Q E, sp vs H Q E → vs.length = ps.length)
    (hbody : ∀ (cdv : Value) (A : Around) (outer : List Env) (s : Shared) (H : Hp) (vs : List V) (Q : VK) (E : XK), Room k (A.deeper (envOfC q (defScope st) s.heap.objs.size f cdv)) → sp vs H Q E →
      ∃ t, PSs (cxOf (CXr P w) P w K mg base N q (defScope st) f cdv A outer s H E) (defBody st) t ∧ t { nx := fun _ H' => Q .non H', rt := Q } (start N vs) H) : MethOk P w K mg base (CXr P w) (k + 1) C m ps sp :=
  ⟨f, fd, M, b, F.ok S len hbody⟩
end
end L2

/-! Own: colours of addresses; what a step keeps; data by colours. -/
namespace L2
open PySem PySem.Spec PyProof.Rows
abbrev Col := Addr → Nat
def cset (c : Col) (p : Addr) (k : Nat) : Col := fun b => if b = p then k else c b
theorem cset_same {c : Col} {p : Addr} {k : Nat} : cset c p k p = k := if_pos rfl
theorem cset_ne {c : Col} {p b : Addr} {k : Nat} (h : b ≠ p) : cset c p k b = c b := if_neg h
/-- from (c, H) to (c', H') nothing changes but what is new and what bears a colour of I -/
structure Keeps (I : Nat → Prop) (c : Col) (H : Hp) (c' : Col) (H' : Hp) : Prop where
  col : ∀ b o, H b = some o → c' b = c b
  keep : ∀ b o, H b = some o → ¬ I (c b) → H' b = some o
  live : ∀ b o, H b = some o → ∃ o', H' b = some o'
abbrev None' : Nat → Prop := fun _ => False
section
variable {I J : Nat → Prop} {c c' c'' : Col} {H H' H'' : Hp} {p a : Addr} {o : HO} {k : Nat}
theorem Keeps.refl : Keeps I c H c H := ⟨fun _ _ _ => rfl, fun _ _ h _ => h, fun _ o h => ⟨o, h⟩⟩
theorem Keeps.trans (x : Keeps I c H c' H') (y : Keeps I c' H' c'' H'') : Keeps I c H c'' H'' where
  col := fun b o h => by
    obtain ⟨o', h'⟩ := x.live b o h
    rw [y.col b o' h', x.col b o h]
  keep := fun b o h n => y.keep b o (x.keep b o h n) (by rw [x.col b o h]; exact n)
  live := fun b o h => by
    obtain ⟨o', h'⟩ := x.live b o h
    exact y.live b o' h'
theorem Keeps.mono (x : Keeps I c H c' H') (h : ∀ n, I n → J n) : Keeps J c H c' H' := ⟨x.col, fun b o q n => x.keep b o q fun z => n (h _ z), x.live⟩
theorem Keeps.any (x : Keeps None' c H c' H') : Keeps I c H c' H' := x.mono fun _ z => z.elim
theorem Keeps.fresh (x : Keeps I c H c' H') (h : H' p = none) : H p = none := by
  cases q : H p with
  | none => rfl
  | some o =>
    obtain ⟨o', z⟩ := x.live p o q
    rw [h] at z
    cases z
/-- a new object -/
theorem Keeps.new (x : Keeps I c H c' H') (h : H' p = none) : Keeps I c H (cset c' p k) (upd H' p o) := by
  have hp := x.fresh h
  refine ⟨fun b u q => ?_, fun b u q n => ?_, fun b u q => ?_⟩
  · rw [cset_ne (ne_of_none q hp)]
    exact x.col b u q
  · rw [upd_ne (ne_of_none q hp)]
    exact x.keep b u q n
  · obtain ⟨u', q'⟩ := x.live b u q
    exact ⟨u', by rw [upd_ne (ne_of_none q hp)]; exact q'⟩
/-- an object that wasn't there at the start is changed, or takes another colour -/
theorem Keeps.own (x : Keeps I c H c' H') (h : H p = none) : Keeps I c H c' (upd H' p o) :=
  ⟨x.col, fun b u q n => by rw [upd_ne (ne_of_none q h)]; exact x.keep b u q n, fun b u q => by rw [upd_ne (ne_of_none q h)]; exact x.live b u q⟩
theorem Keeps.recol (x : Keeps I c H c' H') (h : H p = none) : Keeps I c H (cset c' p k) H' :=
  ⟨fun b u q => by rw [cset_ne (ne_of_none q h)]; exact x.col b u q, x.keep, x.live⟩
/-- an object of a colour of I is changed -/
theorem Keeps.put (x : Keeps I c H c' H') (h : I (c' a)) : Keeps I c H c' (upd H' a o) := by
  refine ⟨x.col, fun b u q n => ?_, fun b u q => ?_⟩
  · have ne : b ≠ a := fun z => n (by rw [← x.col b u q, z]; exact h)
    rw [upd_ne ne]
    exact x.keep b u q n
  · by_cases z : b = a
    · subst z
      exact ⟨o, upd_same⟩
    · rw [upd_ne z]
      exact x.live b u q
theorem Keeps.at (x : Keeps I c H c' H') (h : H a = some o) (n : ¬ I (c a)) : H' a = some o := x.keep a o h n
end

/-! ### data -/
inductive D where
  | non | bl (b : Bool) | int (i : Int) | str (s : Str) | lst (ds : List D) | tup (ds : List D) | dic (ks : List (Key × D))
/-- a list, a tuple at a that bears the colour k, or one of the written part -/
def LsAt (K : PySem.W.Frag) (k : Nat) (c : Col) (H : Hp) (a : Addr) (vs : List V) : Prop := (c a = k ∧ H a = some (.lst vs)) ∨ SqL K (fun _ => none) a vs
def TpAt (K : PySem.W.Frag) (k : Nat) (c : Col) (H : Hp) (a : Addr) (vs : List V) : Prop := (c a = k ∧ H a = some (.tup vs)) ∨ SqT K (fun _ => none) a vs
mutual
inductive Is (K : PySem.W.Frag) (k : Nat) (c : Col) (H : Hp) : D → V → Prop
  | non : Is K k c H .non .non
  | bl (b : Bool) : Is K k c H (.bl b) (.bl b)
  | int (i : Int) : Is K k c H (.int i) (.int i)
  | str (s : Str) : Is K k c H (.str s) (.str s)
  | lst {a : Addr} {ds : List D} {vs : List V} (h : LsAt K k c H a vs) (r : Iss K k c H ds vs) : Is K k c H (.lst ds) (.ref a)
  | tup {a : Addr} {ds : List D} {vs : List V} (h : TpAt K k c H a vs) (r : Iss K k c H ds vs) : Is K k c H (.tup ds) (.ref a)
  | dic {a : Addr} {ks : List (Key × D)} {kvs : List (Key × V)} (h : c a = k ∧ H a = some (.dK kvs)) (r : Isk K k c H ks kvs) : Is K k c H (.dic ks) (.ref a)
inductive Iss (K : PySem.W.Frag) (k : Nat) (c : Col) (H : Hp) : List D → List V → Prop
  | nil : Iss K k c H [] []
  | cons {d : D} {v : V} {ds : List D} {vs : List V} (h : Is K k c H d v) (r : Iss K k c H ds vs) : Iss K k c H (d :: ds) (v :: vs)
inductive Isk (K : PySem.W.Frag) (k : Nat) (c : Col) (H : Hp) : List (Key × D) → List (Key × V) → Prop
  | nil : Isk K k c H [] []
  | cons {q : Key} {d : D} {v : V} {ds : List (Key × D)} {vs : List (Key × V)} (h : Is K k c H d v) (r : Isk K k c H ds vs) : Isk K k c H ((q, d) :: ds) ((q, v) :: vs)
end
section
variable {K : PySem.W.Frag} {I : Nat → Prop} {k : Nat} {c c' : Col} {H H' : Hp} {a p : Addr} {vs : List V} {v : V} {d : D} {ds : List D} {o : HO}
theorem sql_empty (h : SqL K (fun _ => none) a vs) : SqL K H a vs := by
  rcases h with h | h
  · rcases h with h | ⟨o, h⟩ <;> cases h
  · exact .inr h
theorem sqt_empty (h : SqT K (fun _ => none) a vs) : SqT K H a vs := by
  rcases h with h | h
  · rcases h with h | ⟨o, h⟩ <;> cases h
  · exact .inr h
theorem LsAt.sq (h : LsAt K k c H a vs) : SqL K H a vs := by
  rcases h with ⟨_, h⟩ | h
  · exact .inl (.inl h)
  · exact sql_empty h
theorem TpAt.sq (h : TpAt K k c H a vs) : SqT K H a vs := by
  rcases h with ⟨_, h⟩ | h
  · exact .inl (.inl h)
  · exact sqt_empty h
theorem LsAt.mk (h1 : c a = k) (h : H a = some (.lst vs)) : LsAt K k c H a vs := .inl ⟨h1, h⟩
theorem TpAt.mk (h1 : c a = k) (h : H a = some (.tup vs)) : TpAt K k c H a vs := .inl ⟨h1, h⟩
theorem Rd.keep (x : Keeps I c H c' H') (h : Rd H a o) (n : ¬ I (c a)) : Rd H' a o := by
  rcases h with h | ⟨ob, h⟩
  · exact .inl (x.keep a _ h n)
  · exact .inr ⟨ob, x.keep a _ h n⟩
theorem Rd.col (x : Keeps I c H c' H') (h : Rd H a o) : c' a = c a := by
  rcases h with h | ⟨ob, h⟩
  · exact x.col a _ h
  · exact x.col a _ h
theorem LsAt.keep (x : Keeps I c H c' H') (n : ¬ I k) (h : LsAt K k c H a vs) : LsAt K k c' H' a vs := by
  rcases h with ⟨h1, h⟩ | h
  · exact .inl ⟨by rw [x.col _ _ h]; exact h1, x.keep _ _ h (by rw [h1]; exact n)⟩
  · exact .inr h
theorem TpAt.keep (x : Keeps I c H c' H') (n : ¬ I k) (h : TpAt K k c H a vs) : TpAt K k c' H' a vs := by
  rcases h with ⟨h1, h⟩ | h
  · exact .inl ⟨by rw [x.col _ _ h]; exact h1, x.keep _ _ h (by rw [h1]; exact n)⟩
  · exact .inr h
mutual
theorem Is.keep (x : Keeps I c H c' H') (n : ¬ I k) : ∀ {d : D} {v : V}, Is K k c H d v → Is K k c' H' d v
  | _, _, .non => .non
  | _, _, .bl b => .bl b
  | _, _, .int i => .int i
  | _, _, .str s => .str s
  | _, _, .lst h r => .lst (h.keep x n) (Iss.keep x n r)
  | _, _, .tup h r => .tup (h.keep x n) (Iss.keep x n r)
  | _, _, .dic h r => .dic ⟨by rw [x.col _ _ h.2]; exact h.1, x.keep _ _ h.2 (by rw [h.1]; exact n)⟩ (Isk.keep x n r)
theorem Iss.keep (x : Keeps I c H c' H') (n : ¬ I k) : ∀ {ds : List D} {vs : List V}, Iss K k c H ds vs → Iss K k c' H' ds vs
  | _, _, .nil => .nil
  | _, _, .cons h r => .cons (Is.keep x n h) (Iss.keep x n r)
theorem Isk.keep (x : Keeps I c H c' H') (n : ¬ I k) : ∀ {ds : List (Key × D)} {vs : List (Key × V)}, Isk K k c H ds vs → Isk K k c' H' ds vs
  | _, _, .nil => .nil
  | _, _, .cons h r => .cons (Is.keep x n h) (Isk.keep x n r)
end
/-- an object takes the colour k -/
theorem LsAt.recol (h : LsAt K k c H a vs) : LsAt K k (cset c p k) H a vs := by
  rcases h with ⟨h1, h⟩ | h
  · refine .inl ⟨?_, h⟩
    by_cases z : a = p
    · rw [z, cset_same]
    · rw [cset_ne z]
      exact h1
  · exact .inr h
theorem TpAt.recol (h : TpAt K k c H a vs) : TpAt K k (cset c p k) H a vs := by
  rcases h with ⟨h1, h⟩ | h
  · refine .inl ⟨?_, h⟩
    by_cases z : a = p
    · rw [z, cset_same]
    · rw [cset_ne z]
      exact h1
  · exact .inr h
mutual
theorem Is.recol : ∀ {d : D} {v : V}, Is K k c H d v → Is K k (cset c p k) H d v
  | _, _, .non => .non
  | _, _, .bl b => .bl b
  | _, _, .int i => .int i
  | _, _, .str s => .str s
  | _, _, .lst h r => .lst h.recol (Iss.recol r)
  | _, _, .tup h r => .tup h.recol (Iss.recol r)
  | _, _, .dic (a := a) h r => .dic ⟨by
      by_cases z : a = p
      · rw [z, cset_same]
      · rw [cset_ne z]
        exact h.1, h.2⟩ (Isk.recol r)
theorem Iss.recol : ∀ {ds : List D} {vs : List V}, Iss K k c H ds vs → Iss K k (cset c p k) H ds vs
  | _, _, .nil => .nil
  | _, _, .cons h r => .cons (Is.recol h) (Iss.recol r)
theorem Isk.recol : ∀ {ds : List (Key × D)} {vs : List (Key × V)}, Isk K k c H ds vs → Isk K k (cset c p k) H ds vs
  | _, _, .nil => .nil
  | _, _, .cons h r => .cons (Is.recol h) (Isk.recol r)
end
/-- what is new here: kept in place -/
theorem keeps_new {q : Nat} (h : H p = none) : Keeps I c H (cset c p q) (upd H p o) := Keeps.refl.new h
theorem keeps_put (h : I (c a)) : Keeps I c H c (upd H a o) := Keeps.refl.put h
/-- an object of another colour is changed -/
theorem Is.put (h : Is K k c H d v) (n : c a ≠ k) : Is K k c (upd H a o) d v :=
  Is.keep (I := fun z => z = c a) (keeps_put rfl) (fun z => n z.symm) h
theorem Iss.put (h : Iss K k c H ds vs) (n : c a ≠ k) : Iss K k c (upd H a o) ds vs :=
  Iss.keep (I := fun z => z = c a) (keeps_put rfl) (fun z => n z.symm) h
theorem Is.new {q : Nat} (h : Is K k c H d v) (n : H p = none) : Is K k (cset c p q) (upd H p o) d v := Is.keep (I := None') (keeps_new n) (fun z => z) h
theorem Iss.new {q : Nat} (h : Iss K k c H ds vs) (n : H p = none) : Iss K k (cset c p q) (upd H p o) ds vs := Iss.keep (I := None') (keeps_new n) (fun z => z) h
theorem Iss.len : ∀ {ds : List D} {vs : List V}, Iss K k c H ds vs → ds.length = vs.length
  | _, _, .nil => rfl
  | _, _, .cons _ r => congrArg (· + 1) (Iss.len r)
theorem Iss.get : ∀ {ds : List D} {vs : List V} {i : Nat} {d : D}, Iss K k c H ds vs → ds[i]? = some d → ∃ v, vs[i]? = some v ∧ Is K k c H d v
  | _, _, _, _, .nil, e => by simp at e
  | _, _, 0, _, .cons h _, e => ⟨_, rfl, by simp at e; rw [← e]; exact h⟩
  | _, _, i + 1, _, .cons _ r, e => by
    obtain ⟨v, h1, h2⟩ := Iss.get (i := i) r (by simpa using e)
    exact ⟨v, by simpa using h1, h2⟩
theorem Iss.getV : ∀ {ds : List D} {vs : List V} {i : Nat} {v : V}, Iss K k c H ds vs → vs[i]? = some v → ∃ d, ds[i]? = some d ∧ Is K k c H d v
  | _, _, _, _, .nil, e => by simp at e
  | _, _, 0, _, .cons h _, e => ⟨_, rfl, by simp at e; rw [← e]; exact h⟩
  | _, _, i + 1, _, .cons _ r, e => by
    obtain ⟨d, h1, h2⟩ := Iss.getV (i := i) r (by simpa using e)
    exact ⟨d, by simpa using h1, h2⟩
theorem Iss.app : ∀ {ds es : List D} {vs us : List V}, Iss K k c H ds vs → Iss K k c H es us → Iss K k c H (ds ++ es) (vs ++ us)
  | _, _, _, _, .nil, s => s
  | _, _, _, _, .cons h r, s => .cons h (Iss.app r s)
theorem Iss.one (h : Is K k c H d v) : Iss K k c H [d] [v] := .cons h .nil
theorem Iss.ints : ∀ ns : List Int, Iss K k c H (ns.map D.int) (ns.map V.int)
  | [] => .nil
  | n :: r => .cons (.int n) (Iss.ints r)
theorem Iss.strs : ∀ ns : List Str, Iss K k c H (ns.map D.str) (ns.map V.str)
  | [] => .nil
  | n :: r => .cons (.str n) (Iss.strs r)
theorem Iss.ints_eq : ∀ {ns : List Int} {vs : List V}, Iss K k c H (ns.map D.int) vs → vs = ns.map V.int
  | [], _, .nil => rfl
  | n :: r, _, .cons h t => by
    have e := Iss.ints_eq (ns := r) t
    cases h
    rw [e]
    rfl
theorem Iss.strs_eq : ∀ {ns : List Str} {vs : List V}, Iss K k c H (ns.map D.str) vs → vs = ns.map V.str
  | [], _, .nil => rfl
  | n :: r, _, .cons h t => by
    have e := Iss.strs_eq (ns := r) t
    cases h
    rw [e]
    rfl
end
section
variable {K : PySem.W.Frag} {k : Nat} {c : Col} {H : Hp} {a : Addr} {vs : List V}
/-- data that leans on no written part -/
theorem LsAt.raw (h : LsAt ([] : PySem.W.Frag) k c H a vs) : c a = k ∧ H a = some (.lst vs) := by
  rcases h with h | (h | ⟨o, h⟩) | ⟨o, _, _, h, _⟩
  · exact h
  · cases h
  · cases h
  · cases h
theorem TpAt.raw (h : TpAt ([] : PySem.W.Frag) k c H a vs) : c a = k ∧ H a = some (.tup vs) := by
  rcases h with h | (h | ⟨o, h⟩) | ⟨o, _, _, h, _⟩
  · exact h
  · cases h
  · cases h
  · cases h
mutual
theorem Is.up : ∀ {d : D} {v : V}, Is ([] : PySem.W.Frag) k c H d v → Is K k c H d v
  | _, _, .non => .non
  | _, _, .bl b => .bl b
  | _, _, .int i => .int i
  | _, _, .str s => .str s
  | _, _, .lst h r => .lst (.inl h.raw) (Iss.up r)
  | _, _, .tup h r => .tup (.inl h.raw) (Iss.up r)
  | _, _, .dic h r => .dic h (Isk.up r)
theorem Iss.up : ∀ {ds : List D} {vs : List V}, Iss ([] : PySem.W.Frag) k c H ds vs → Iss K k c H ds vs
  | _, _, .nil => .nil
  | _, _, .cons h r => .cons (Is.up h) (Iss.up r)
theorem Isk.up : ∀ {ds : List (Key × D)} {vs : List (Key × V)}, Isk ([] : PySem.W.Frag) k c H ds vs → Isk K k c H ds vs
  | _, _, .nil => .nil
  | _, _, .cons h r => .cons (Is.up h) (Isk.up r)
end
end
/-- no deeper than n, no wider than 100000 -/
inductive Fits : Nat → D → Prop
  | non {n : Nat} : Fits n .non
  | bl {n : Nat} (b : Bool) : Fits n (.bl b)
  | int {n : Nat} (i : Int) : Fits n (.int i)
  | str {n : Nat} (s : Str) : Fits n (.str s)
  | lst {n : Nat} {ds : List D} (h : ds.length ≤ 100000) (r : ∀ d ∈ ds, Fits n d) : Fits (n + 1) (.lst ds)
  | tup {n : Nat} {ds : List D} (h : ds.length ≤ 100000) (r : ∀ d ∈ ds, Fits n d) : Fits (n + 1) (.tup ds)
  | dic {n : Nat} {ks : List (Key × D)} (h : ks.length ≤ 100000) (nd : (ks.map (·.1)).Nodup) (tx : ∀ q ∈ ks, ∃ s, q.1 = Sum.inr s) (r : ∀ q ∈ ks, Fits n q.2) : Fits (n + 1) (.dic ks)
end L2

/-! Rules: the layer's rules with the written part told by name, some further ones. -/
namespace L2
open PySem PySem.Spec PyProof.Rows
section
variable {X : Cx} {K : PySem.W.Frag} {a b c e o : Expr} {es : List Expr} {ta tb te to tv : TE} {t : TA} {pos pos' apos cpos : Pos} {tg : Expr}
def rLenQ (K : PySem.W.Frag) : List V → Hp → VK → Prop := fun xs H Q => ∃ p ys, xs = [.ref p] ∧ (SqL K H p ys ∨ SqT K H p ys) ∧ Q (.int ys.length) H
def rListQ (K : PySem.W.Frag) : List V → Hp → VK → Prop := fun xs H Q => ∃ p ys, xs = [.ref p] ∧ (SqL K H p ys ∨ SqT K H p ys) ∧ ∀ l, H l = none → Q (.ref l) (upd H l (.lst ys))
def rTupQ (K : PySem.W.Frag) : List V → Hp → VK → Prop := fun xs H Q => ∃ p ys, xs = [.ref p] ∧ SqL K H p ys ∧ ∀ l, H l = none → Q (.ref l) (upd H l (.tup ys))
def rJoinQ (K : PySem.W.Frag) : V → List V → Hp → VK → Prop := fun x xs H Q => ∃ a p, ∃ ys : List Str, x = .str a ∧ xs = [.ref p] ∧ (SqL K H p (ys.map V.str) ∨ SqT K H p (ys.map V.str)) ∧
      (ys.map (·.length)).sum + ys.length * a.length ≤ 16777216 ∧ Q (.str (Txt.join a ys)) H
def tTruQ (K : PySem.W.Frag) (ta : TE) : TT := fun σ H Q => ta σ H fun x H' => ∃ k, TruV K x H' k ∧ Q k H'
def rLenSq : List V → Hp → VK → Prop := fun xs H Q => ∃ z, xs = [.str z] ∧ z.length ≤ sizeLine ∧ Q (.int z.length) H
theorem pg_tup' {es : List Expr} {k n : Nat} {tgs : TGs} (hc : X.calm = true) (hp : PGs X es tgs) (h : X.K = K := by rfl) (hn : (assignEach es X.env).length = n := by rfl) (hst : (assignEach es X.env).findIdx? (·.1) = none := by rfl) : PG X (.Tuple es k pos) (gTup K n tgs) := by
  subst h
  exact pg_tup hc hp hn hst
theorem ix_list' (h : X.K = K := by rfl) : IxR X (rIxL K) := by subst h; exact ix_list
theorem ix_tup' (h : X.K = K := by rfl) : IxR X (rIxT K) := by subst h; exact ix_tup
theorem ix_seq' (h : X.K = K := by rfl) : IxR X (rIx K) := by subst h; exact ix_seq
theorem sl_tup' (h : X.K = K := by rfl) : SlR X (rSlT K) := by subst h; exact sl_tup
theorem sl_list' (h : X.K = K := by rfl) : SlR X (rSlL K) := by subst h; exact sl_list
theorem op_in_seq' (h : X.K = K := by rfl) : OpR X (compareOp .In) (rIn K false) := by subst h; exact op_in_seq
theorem op_notIn_seq' (h : X.K = K := by rfl) : OpR X (compareOp .NotIn) (rIn K true) := by subst h; exact op_notIn_seq
theorem op_eqD' (hu : X.A.units + 64 < cLine) (h : X.K = K := by rfl) : OpR X (compareOp .Eq) (rEqD K) := by subst h; exact op_eqD hu
theorem op_neD' (hu : X.A.units + 64 < cLine) (h : X.K = K := by rfl) : OpR X (compareOp .NotEq) (rNeD K) := by subst h; exact op_neD hu
theorem op_catA' (h : X.K = K := by rfl) : OpR X (binaryOp .Add) (rCatA K) := by subst h; exact op_catA
theorem call_len_seq' (h : X.K = K := by rfl) : CallR X (.builtin "len") (rLenQ K) := by subst h; exact call_len_seq
theorem call_len_str' : CallR X (.builtin "len") rLenSq := call_len_str
theorem call_list_of' (h : X.K = K := by rfl) : CallR X (.type "list") (rListQ K) := by subst h; exact call_list_of
theorem call_tuple_of' (h : X.K = K := by rfl) : CallR X (.type "tuple") (rTupQ K) := by
  subst h
  intro pins s σ H xs us Q I r q
  obtain ⟨p, ys, e, h1, h2⟩ := q
  exact call_tuple_of pins s σ H xs us Q I r ⟨p, ys, e, .inl ⟨h1, h2⟩⟩
theorem call_isi' (h : X.K = K := by rfl) : CallR X (.builtin "isinstance") (rIsi K) := by subst h; exact call_isi
theorem call_isiT' (h : X.K = K := by rfl) : CallR X (.builtin "isinstance") (rIsiT K) := by subst h; exact call_isiT
theorem cr_all' (hc : X.calm = true) (h : X.K = K := by rfl) : CallR X (.builtin "all") (rAll K) := by subst h; exact cr_all hc
theorem cr_any' (hc : X.calm = true) (h : X.K = K := by rfl) : CallR X (.builtin "any") (rAny K) := by subst h; exact cr_any hc
theorem cr_sum' (hc : X.calm = true) (h : X.K = K := by rfl) : CallR X (.builtin "sum") (rSum K) := by subst h; exact cr_sum hc
theorem cr_max' (hc : X.calm = true) (h : X.K = K := by rfl) : CallR X (.builtin "max") (rMax K) := by subst h; exact cr_max hc
theorem cr_min' (hc : X.calm = true) (h : X.K = K := by rfl) : CallR X (.builtin "min") (rMin K) := by subst h; exact cr_min hc
theorem mt_index' (h : X.K = K := by rfl) : MtR X "list.index" (rIndex K) := by subst h; exact mt_index
theorem pi_list' (hl : PE X e te) (h : X.K = K := by rfl) : PI X tg e (iList K te) := by subst h; exact pi_list hl
theorem pi_tup' (hl : PE X e te) (h : X.K = K := by rfl) : PI X tg e (iTup K te) := by subst h; exact pi_tup hl
theorem pt_truth' (ha : PE X a ta) (he : ∀ whole, isTrue a X.env whole = (do let v ← whole; standAt a.pos; holding [v] (truthy v))) (h : X.K = K := by rfl) : PT X a (tTruQ K ta) := by subst h; exact pt_truth ha he
theorem pe_fld' {f : Str} (he : PE X e ta) (hb : attributeBase e f X.env (eval e X.env) = eval e X.env) (h : X.K = K := by rfl) : PE X (.Attribute e f pos) (tFld K ta f) := by subst h; exact pe_fld he hb
theorem ps_fld' {f : Str} {value : Expr} (ha : PE X o ta) (hv : PE X value tv) (hs : swapsWith value (some (.Attribute o f pos')) pos.line X.env = pure false) (h : X.K = K := by rfl) : PS X (.Assign [.Attribute o f pos'] value pos) (sFld K ta tv f) := by subst h; exact ps_fld ha hv hs
theorem pe_join' {apos pos : Pos} (ho : PE X o to) (he : PE X e te) (h : X.K = K := by rfl) (hs : starEach [e] X.env = [(false, eval e X.env)] := by rfl) (hbase : attributeBase o "join" X.env (eval o X.env) = eval o X.env := by rfl) (hline : (apos.endLine == pos.line) = true := by rfl) :
    PE X (.Call (.Attribute o "join" apos) [e] [] pos) (tM1 (rJoinQ K) to te) := by subst h; exact pe_join ho he hs hbase hline
section
variable {name : Str} {T id : String} {r : V → List V → Hp → VK → Prop}
theorem pe_bm0' (pa : PlainAttrs T) (slot : Slot T name id) (hty : typeOf (.builtin id) = pure (.type "method_descriptor")) (hm : MtR X id r) (ho : PE X o to) (h : X.K = K := by rfl)
    (hbase : attributeBase o name X.env (eval o X.env) = eval o X.env := by rfl) (hline : (apos.endLine == cpos.line) = true := by rfl) : PE X (.Call (.Attribute o name apos) [] [] cpos) (tBM0 K T r to) := by subst h; exact pe_bm0 pa slot hty hm ho hbase hline
theorem pe_bm' (pa : PlainAttrs T) (slot : Slot T name id) (hty : typeOf (.builtin id) = pure (.type "method_descriptor")) (hm : MtR X id r) (ho : PE X o to) (ha : PA X (e :: es) t) (h : X.K = K := by rfl)
    (hbase : attributeBase o name X.env (eval o X.env) = eval o X.env := by rfl)
    (hfew : ((backTo cpos (starEach (e :: es) X.env)).all (fun x => !x.1) && (backToKw cpos (keywordEach [] X.env)).all (fun x => x.1.isSome)
      && decide ((e :: es).length + ([] : List Keyword).length + (if ([] : List Keyword).isEmpty then 0 else 1) < 30)) = true := by rfl)
    (hline : (apos.endLine == cpos.line) = true := by rfl) (hs : starEach (e :: es) X.env = (false, eval e X.env) :: starEach es X.env := by rfl) (hplain : (backTo cpos (starEach es X.env)).any (·.1) = false := by rfl) :
    PE X (.Call (.Attribute o name apos) (e :: es) [] cpos) (tBM K T r to t) := by subst h; exact pe_bm pa slot hty hm ho ha hbase hfew hline hs hplain
end
/-! ### text times int -/
def strRep (a : Str) (n : Nat) : Str := ⟨((List.replicate n a.cps.toList).flatten).toArray⟩
theorem foldl_app_toList {α : Type} : ∀ (xs : List (Array α)) (z : Array α), (xs.foldl (· ++ ·) z).toList = z.toList ++ (xs.map Array.toList).flatten
  | [], z => by simp
  | x :: r, z => by
    show (r.foldl (· ++ ·) (z ++ x)).toList = _
    rw [foldl_app_toList r (z ++ x)]
    simp
theorem strRep_fold (a : Str) (n : Nat) : (⟨(List.replicate n a.cps).foldl (· ++ ·) #[]⟩ : Str) = strRep a n := by
  have h := foldl_app_toList (List.replicate n a.cps) #[]
  unfold strRep
  congr 1
  apply Array.ext'
  rw [h]
  simp
theorem flat_rep_len {α : Type} (l : List α) : ∀ n : Nat, ((List.replicate n l).flatten).length = n * l.length
  | 0 => by simp
  | n + 1 => by
    rw [List.replicate_succ, List.flatten_cons, List.length_append, flat_rep_len l n, Nat.succ_mul]
    omega
theorem strRep_len (a : Str) (n : Nat) : (strRep a n).length = n * a.length := by
  show ((List.replicate n a.cps.toList).flatten.toArray).size = n * a.cps.size
  rw [List.size_toArray, flat_rep_len, Array.length_toList]
def rMulS : R2 := fun x y H Q => ∃ (a : Str) (n : Int), x = .str a ∧ y = .int n ∧ -1000000 ≤ n ∧ n ≤ 1000000 ∧ a.length * n.toNat ≤ 1000000 ∧ Q (.str (strRep a n.toNat)) H
theorem op_repS : OpR X (binaryOp .Mult) rMulS := by
  intro pins s σ H x y v u Q I rx ry h
  obtain ⟨a, n, rfl, rfl, h1, h2, h3, q⟩ := h
  obtain ⟨t, rfl⟩ := rx
  obtain ⟨t', rfl⟩ := ry
  have fin : ∀ {z : Str}, z = strRep a n.toNat → EP X pins σ Q (.str z s.toks) { s with toks := s.toks + 1 } := fun {z} e => by
    subst e
    exact ⟨.str _, H, I.tok _, ⟨_, rfl⟩, q⟩
  refine PySem.P.mul_str ?_ ?_ ?_ ?_
  · rw [Bool.or_eq_false_iff]
    exact ⟨decide_eq_false (by omega), decide_eq_false (by omega)⟩
  · intro k1 k2 k3
    have e1 : (2 ^ 63 - 1 : Int) / n ≥ (2 ^ 63 - 1 : Int) / 1000000 := by
      have hn : 0 < n := by omega
      apply Int.le_ediv_of_mul_le hn
      have e2 : (2 ^ 63 - 1 : Int) / 1000000 = 9223372036854 := by decide
      rw [e2]
      have : (9223372036854 : Int) * n ≤ 9223372036854 * 1000000 := Int.mul_le_mul_of_nonneg_left h2 (by decide)
      omega
    have e2 : (2 ^ 63 - 1 : Int) / 1000000 = 9223372036854 := by decide
    have hn : 1 ≤ n.toNat := by omega
    have e3 : a.length ≤ 1000000 := Nat.le_trans (by have := Nat.le_mul_of_pos_right a.length hn; omega) h3
    omega
  · intro k1 k2
    unfold Builtin.Str.tooLong
    have : sizeLine = 16777216 := sizeLine_eq
    first
      | exact decide_eq_false (by omega)
      | (simp only [decide_eq_false_iff_not]; omega)
      | (rw [Bool.eq_false_iff]; intro z; have z' := of_decide_eq_true z; omega)
  · by_cases k1 : n < 1
    · rw [if_pos k1]
      have e0 : n.toNat = 0 := by omega
      refine ⟨by decide, ?_⟩
      refine fin ?_
      rw [e0]
      rfl
    · rw [if_neg k1]
      by_cases k2 : (n == 1 || a.length == 0) = true
      · rw [if_pos k2]
        refine ⟨.str a, H, I, ⟨_, rfl⟩, ?_⟩
        have e : strRep a n.toNat = a := by
          rcases (Bool.or_eq_true _ _).mp k2 with k | k
          · have e1 : n = 1 := by simpa using k
            subst e1
            show strRep a 1 = a
            unfold strRep
            simp
          · have e1 : a.length = 0 := by simpa using k
            have e2 : a.cps.size = 0 := e1
            have e3 : a.cps = #[] := Array.size_eq_zero_iff.mp e2
            unfold strRep
            rw [e3]
            cases a
            simp at e3
            subst e3
            congr 1
            apply Array.ext'
            simp
        rw [← e]
        exact q
      · rw [if_neg k2]
        rw [strRep_fold]
        refine ⟨?_, fin rfl⟩
        have e1 := strRep_len a n.toNat
        have e2 : n.toNat * a.length = a.length * n.toNat := Nat.mul_comm _ _
        have : sizeLine = 16777216 := sizeLine_eq
        omega
end
end L2

/-! Kit2: making an instance, in bundles. -/
namespace L2
open PySem PySem.Spec PyProof.Rows
/-- the module's name x is the class at C, whose __init__ keeps sp -/
structure MkOk (P : Program) (w : World) (K : PySem.W.Frag) (mg : Str → Option Value) (base : Heap) (CX : CXT) (k : Nat) (C : Addr) (x : Str) (ps : List Str) (sp : Sp) : Prop where
  ex : ∃ f fd, Mk K C f ∧ mg x = some (.ref C) ∧ Binds K fd ps [] ∧ FnOk P w K mg base CX k f fd ps sp
section
variable {X : Cx} {W : WX} {k : Nat} {C : Addr} {ps : List Str} {sp : Sp} {x : Str} {p pos : Pos} {e : Expr} {es : List Expr} {t : TA}
theorem pe_mkD (G : MkOk X.prog X.w X.K X.mg X.base CX0 k C x ps sp) (hr : Room (k + 1) X.A) (ha : PA X (e :: es) t) (hg : Gl X x := by rfl) (hdb : (x == ("__debug__" : Str)) = false := by decide)
    (he : starEach (e :: es) X.env = (false, eval e X.env) :: starEach es X.env := by rfl) (hpl : (backTo pos (starEach es X.env)).any (·.1) = false := by rfl) :
    PE X (.Call (.Name x p) (e :: es) [] pos) (tMake C sp [] E0 t) := by
  obtain ⟨f, fd, M, hm, hb, F⟩ := G.ex
  exact pe_make M F hr hg hm hb .nil pass0 ha hdb he hpl
theorem pe_mkD0 (G : MkOk X.prog X.w X.K X.mg X.base CX0 k C x ps sp) (hr : Room (k + 1) X.A) (hg : Gl X x := by rfl) (hdb : (x == ("__debug__" : Str)) = false := by decide) :
    PE X (.Call (.Name x p) [] [] pos) (tMake C sp [] E0 tNil) := by
  obtain ⟨f, fd, M, hm, hb, F⟩ := G.ex
  exact pe_make0 M F hr hg hm hb .nil pass0 hdb
end
section
variable {P : Program} {w : World} {K : PySem.W.Frag} {mg : Str → Option Value} {base : Heap}
theorem mk_mk {C : Addr} {x q : Str} {st : Stmt} {f : Addr} {fd : FuncData} {N ps : List Str} {k : Nat} {sp : Sp} (F : FunD K "__init__" q (defArgs st) (defBody st) (defScope st) [] [] f fd) (M : Mk K C f) (m : mg x = some (.ref C)) (b : Binds K fd ps []) (S : FnScope N ps (defScope st))
    (len : ∀ vs H Q E, sp vs H Q E → vs.length = ps.length)
    (hbody : ∀ (cdv : Value) (A : Around) (outer : List Env) (s : Shared) (H : Hp) (vs : List V) (Q : VK) (E : XK), Room k (A.deeper (envOfC q (defScope st) s.heap.objs.size f cdv)) → sp vs H Q E →
      ∃ t, PSs (cxOf CX0 P w K mg base N q (defScope st) f cdv A outer s H E) (defBody st) t ∧ t { nx := fun _ H' => Q .non H', rt := Q } (start N vs) H) : MkOk P w K mg base CX0 (k + 1) C x ps sp :=
  ⟨f, fd, M, m, b, F.ok S len hbody⟩
end
end L2

/-! LowHook: the head tells the own exceptions of Low: their class, their __init__ with its cell, its code object. -/
namespace Lo
open PySem PySem.W PySem.Calls PyProof.Rows PySem.HandSPX
abbrev LwW : Type := Option (Str × Str × Arguments × FuncBody × Scope × Addr × List Str × Addr)
abbrev caI (K : Frag) (x : Str) : Addr := He.ga K x
abbrev faI (K : Frag) (x : Str) : Addr := He.ma K (He.ga K x) "__init__"
def lowW (K : Frag) (x : Str) : LwW := match K.lookup (faI K x) with
  | some ⟨_, _, .func fd, _⟩ => some (fd.name, fd.qualname, fd.params, fd.body, fd.scope, fd.globals, fd.closure.map (·.1), fd.builtins)
  | _ => none
structure LowD where
  x : Str
  fld : Str
  qual : Str
  params : Arguments
  body : List Stmt
  scope : Scope
  file : Str
def LowD.val (d : LowD) : LwW := some ("__init__", d.qual, d.params, .stmts d.body, d.scope, mainGlobals, ["__class__"], builtinsNs)
def clsB (K : Frag) (C : Addr) : Bool := match K.lookup C with
  | some ⟨.type "type", _, .cls cd, sl⟩ => (match cd.mro, sl.toList with
    | .ref C' :: bm, [_, _, _, _, some (.builtin n), _] => (C' == C) && ((n == "ValueError.__new__") && ((!cd.hasDel) && (cd.hasDict && refsVE bm)))
    | _, _ => false)
  | _ => false
theorem clsB_ok {K : Frag} {C : Addr} (q : clsB K C = true) : ∃ nm q N bs bm sn sub ab col dd k0 k1 k2 k3 k5, K.lookup C = some (excClassObj nm q C N bs bm true sn sub ab col dd k0 k1 k2 k3 k5 "ValueError.__new__") ∧ refsVE bm = true := by
  unfold clsB at q
  split at q
  · rename_i dd cd sl ho
    split at q
    · rename_i C' bm k0 k1 k2 k3 n k5 hm hs
      simp only [Bool.and_eq_true, beq_iff_eq, Bool.not_eq_true'] at q
      obtain ⟨rfl, rfl, hdel, hhd, ht⟩ := q
      obtain ⟨nm, bs, mro, ns, qn, hd, sn, sub, ab, col, del⟩ := cd
      dsimp only at hm hdel hhd
      subst hm hdel hhd
      have hsl : sl = #[k0, k1, k2, k3, some (.builtin "ValueError.__new__"), k5] := by
        obtain ⟨l⟩ := sl
        simp only at hs
        rw [hs]
      subst hsl
      exact ⟨nm, qn, ns, bs, bm, sn, sub, ab, col, dd, k0, k1, k2, k3, k5, ho, ht⟩
    · cases q
  · cases q
def fldB (fld : Str) : Bool := (fld == ("self" : Str)) || ((("__class__" : Str) == fld) || ((("super" : Str) == fld) || ((fld == ("__debug__" : Str)) || (("self" : Str) == fld))))
theorem fldB_ok {fld : Str} (h : fldB fld = false) : FldOk fld := by
  unfold fldB at h
  simp only [Bool.or_eq_false_iff] at h
  obtain ⟨h1, h2, h3, h4, h5⟩ := h
  exact ⟨h1, h2, h3, h4, h5⟩
def fnB (K : Frag) (fI C : Addr) (file : Str) : Bool := match K.lookup fI with
  | some ⟨_, _, .func fd, _⟩ => decide (fd.defaults = .none) && (decide (fd.kwdefaults = .none) && ((match fd.code with
    | .ref cda => codeIn K (.ref cda) fd.qualname && (match K.lookup cda with
      | some ⟨_, _, .fields vs, _⟩ => (match (vs[2]? : Option Value) with
        | some (Value.str f _) => file == f
        | _ => false)
      | _ => false)
    | _ => false) && (match fd.closure with
    | [(_, cc)] => (match K.lookup cc with
      | some ⟨_, _, .cell (some (.ref C')), _⟩ => C' == C
      | _ => false)
    | _ => false)))
  | _ => false
def lowB (K : Frag) (d : LowD) : Bool :=
  clsB K (caI K d.x) && (!fldB d.fld && (decide (findIn K (.ref (caI K d.x)) "__setattr__" = some (some (.builtin "object.__setattr__"))) && (decide (findIn K (.ref (caI K d.x)) d.fld = some none) &&
  (decide (findIn K (.ref (caI K d.x)) "__init__" = some (some (.ref (faI K d.x)))) && (decide (typeIn K (.ref (faI K d.x)) = some (.type "function")) && (keepIn K (.ref (caI K d.x)) &&
  (decide (subIn K (.ref (caI K d.x)) (.type "BaseException") = some true) && (decide (subIn K (.ref (caI K d.x)) (.type "ValueError") = some true) && (decide (typeIn K (.ref (caI K d.x)) = some (.type "type")) &&
  (decide (mroIn K (caI K d.x) (.ref (caI K d.x)) = some true) && (decide (ks_superIn K (caI K d.x) (caI K d.x) "__init__" = some (some (.builtin "ValueError.__init__"))) &&
  (decide (nsIn K mainGlobals "super" = some none) && (decide (nsIn K cStatics "thirdparty.any" = some none) && fnB K (faI K d.x) (caI K d.x) d.file)))))))))))))
/-- what the text must be for Low's rule: asked of the concrete __init__ -/
structure LowT (d : LowD) (p1 p2 a1 a2 a3 a4 a5 a6 b1 b2 b3 b4 : Pos) : Prop where
  par : d.params = iA d.fld p1 p2
  bod : d.body = iB d.fld a1 a2 a3 a4 a5 a6 b1 b2 b3 b4
  sco : d.scope = iS d.fld
  bind : ∀ (q : Str) (doc pm : Value) (an : Option Addr) (cc cda : Addr) (ct u v : Value),
    bindArgs (fnX "__init__" q (iA d.fld p1 p2) (iB d.fld a1 a2 a3 a4 a5 a6 b1 b2 b3 b4) (iS d.fld) [("__class__", cc)] .none .none doc pm an (.ref cda) ct) ⟨[u, v], []⟩ = pure [((PySem.Str.ofString "self" : Str), u), (d.fld, v)]
  ev : ∀ env : Env, ∃ pl : Sem Bool, eval (.Call (.Attribute (.Call (.Name "super" a1) [] [] a2) "__init__" a3) [.Name d.fld a4] [] a5) env = (do
      let ov ← attributeBase (.Call (.Name "super" a1) [] [] a2) "__init__" env (eval (.Call (.Name "super" a1) [] [] a2) env)
      standAt a3.atName
      let (f, first) ← holding [ov] (getMethod ov "__init__" pl)
      callWith a5 f first (backTo a5 (starEach [.Name d.fld a4] env)) [])
theorem low_of {P : Program} {K : Frag} {d : LowD} {p1 p2 a1 a2 a3 a4 a5 a6 b1 b2 b3 b4 : Pos} (T : LowT d p1 p2 a1 a2 a3 a4 a5 a6 b1 b2 b3 b4) (w : lowW K d.x = d.val) (b : lowB K d = true) (hf : P.main.file = d.file)
    (ht : (P.main.scope.names.lookup ("super" : Str)).isSome = false) : LowC P K (caI K d.x) (faI K d.x) d.fld := by
  unfold lowB at b
  simp only [Bool.and_eq_true, decide_eq_true_eq, Bool.not_eq_true'] at b
  obtain ⟨z1, z2, z3, z4, z5, z6, z7, z8, z9, z10, z11, z12, z13, z14, z15⟩ := b
  refine ⟨fldB_ok z2, clsB_ok z1, z3, z4, z5, z6, z7, z8, z9, z10, z11, z12, z13, z14, ht, ?_⟩
  unfold fnB at z15
  unfold lowW at w
  cases e : K.lookup (faI K d.x) with
  | none =>
    rw [e] at z15
    cases z15
  | some o =>
    obtain ⟨oc, od, dt, osl⟩ := o
    rw [e] at z15 w
    cases dt with
    | func fd =>
      obtain ⟨nm, qn, pr, bo, scp, gl, cl, dv, kv, doc, pm, an, code, ct, bu⟩ := fd
      simp only [Bool.and_eq_true, decide_eq_true_eq] at z15
      obtain ⟨y1, y2, y3, y4⟩ := z15
      dsimp only at y1 y2 y3 y4 w
      subst y1 y2
      unfold LowD.val at w
      injection w with w
      injection w with w1 w
      injection w with w2 w
      injection w with w3 w
      injection w with w4 w
      injection w with w5 w
      injection w with w6 w
      injection w with w7 w8
      subst w1 w2 w3 w4 w5 w6 w8
      cases code with
      | ref cda =>
        dsimp only at y3
        obtain ⟨y5, y6⟩ := Bool.and_eq_true_iff.mp y3
        match cl, w7, y4 with
        | [(nm1, cc)], w7, y4 =>
          have en : nm1 = ("__class__" : Str) := by
            have := congrArg (fun l => l.head?) w7
            exact Option.some.inj this
          subst en
          dsimp only at y4
          refine ⟨oc, od, d.qual, doc, pm, an, cc, cda, ct, osl, p1, p2, a1, a2, a3, a4, a5, a6, b1, b2, b3, b4, ?_, y5, T.bind d.qual doc pm an cc cda ct, T.ev, ?_, ?_⟩
          · rw [T.par, T.bod, T.sco]
          · cases e2 : K.lookup cda with
            | none =>
              rw [e2] at y6
              cases y6
            | some o2 =>
              obtain ⟨c1, c2, c3, c4⟩ := o2
              rw [e2] at y6
              cases c3 with
              | fields vs =>
                dsimp only at y6
                cases e3 : vs[2]? with
                | none =>
                  rw [e3] at y6
                  cases y6
                | some v3 =>
                  rw [e3] at y6
                  cases v3 with
                  | str f tf =>
                    dsimp only at y6
                    exact ⟨c1, c2, vs, c4, f, tf, rfl, e3, by rw [hf]; exact y6⟩
                  | _ => cases y6
              | _ => cases y6
          · cases e2 : K.lookup cc with
            | none =>
              rw [e2] at y4
              cases y4
            | some o2 =>
              obtain ⟨c1, c2, c3, c4⟩ := o2
              rw [e2] at y4
              cases c3 with
              | cell v =>
                cases v with
                | none => cases y4
                | some v =>
                  cases v with
                  | ref C' =>
                    dsimp only at y4
                    have e5 : C' = caI K d.x := by simpa using y4
                    subst e5
                    exact ⟨c1, c2, c4, rfl⟩
                  | _ => cases y4
              | _ => cases y4
        | [], w7, y4 => cases y4
        | _ :: _ :: _, w7, y4 => cases y4
      | _ => cases y3
    | _ => cases z15
/-! ### the Hook: the fragment also holds the model's own table -/
abbrev AlL : Type := He.AlD × (Bool × List LwW)
structure SaysL (fa : List He.Fa) (fn : List He.DefD) (ls : List LowD) (ex : Frag → Bool) (K : Frag) : Prop where
  d : He.SaysD fa fn K
  more : ex K = true
  low : ls.map (fun d => lowW K d.x) = ls.map LowD.val
def fragL (g : Addr → Option Obj) (n : Nat) : Frag := He.frT g (cStatics :: He.asD g n)
def obsL (n : Nat) (fa : List He.Fa) (fn : List He.DefD) (ls : List LowD) (ex : Frag → Bool) (g : Addr → Option Obj) : AlL := (He.obsD fa fn (fragL g n), ex (fragL g n), ls.map fun d => lowW (fragL g n) d.x)
def hookL (n : Nat) (fa : List He.Fa) (fn : List He.DefD) (ls : List LowD) (ex : Frag → Bool) : Hook where
  α := AlL
  obs := fun s => obsL n fa fn ls ex s.heap.get?
  val := fun _ => (He.valD fn, true, ls.map LowD.val)
  says := fun _ h => ∃ K : Frag, K.In h ∧ SaysL fa fn ls ex K
  of := fun _ _ e => ⟨_, He.frT_in, congrArg (fun z : AlL => z.1) e, congrArg (fun z : AlL => z.2.1) e, congrArg (fun z : AlL => z.2.2) e⟩
  keeps := fun _ _ _ ⟨K, hK, c⟩ k => ⟨K, Frag.In.keeps hK k, c⟩
theorem obsL_eq {n : Nat} {fa : List He.Fa} {fn : List He.DefD} {ls : List LowD} {ex : Frag → Bool} {g : Addr → Option Obj} {s : Shared} (h : ∀ a, g a = s.heap.get? a) : obsL n fa fn ls ex g = (hookL n fa fn ls ex).obs s := by
  have e : g = s.heap.get? := funext h
  rw [e] <;> rfl
theorem SaysL.get {fa : List He.Fa} {fn : List He.DefD} {ls : List LowD} {ex : Frag → Bool} {K : Frag} (c : SaysL fa fn ls ex K) {d : LowD} (hd : d ∈ ls) : lowW K d.x = d.val := List.map_inj_left.mp c.low d hd
end Lo

/-! K83M: a disk in plain Lean. -/
namespace MK
open PySem L2
/-! ### texts -/
theorem app_len (a b : Str) : (a ++ b).length = a.length + b.length := by
  show (a.cps ++ b.cps).size = a.cps.size + b.cps.size
  exact Array.size_append
def pg (t : Str) : Str := t ++ strRep " " ((384 : Int) - (t.length : Int)).toNat
theorem one_len : ((" " : Str)).length = 1 := by decide +kernel
theorem pg_len {t : Str} (h : t.length ≤ 384) : (pg t).length = 384 := by
  unfold pg
  rw [app_len, strRep_len, one_len]
  omega
theorem ljust_pg {t : Str} (h : t.length ≤ 384) : Txt.ljust t 384 = pg t := by
  unfold Txt.ljust pg
  by_cases e : (384 : Int) ≤ (t.length : Int)
  · rw [if_pos e]
    have e0 : ((384 : Int) - (t.length : Int)).toNat = 0 := by omega
    rw [e0]
    show t = ⟨t.cps ++ (strRep " " 0).cps⟩
    have z : (strRep " " 0).cps = #[] := by rfl
    rw [z]
    simp
  · rw [if_neg e]
    have e1 : ((384 : Int).toNat - t.length) = ((384 : Int) - (t.length : Int)).toNat := by omega
    rw [e1]
    generalize ((384 : Int) - (t.length : Int)).toNat = k
    show (⟨Array.replicate 0 32 ++ t.cps ++ Array.replicate k 32⟩ : Str) = ⟨t.cps ++ (strRep " " k).cps⟩
    have z : (strRep " " k).cps = Array.replicate k 32 := by
      unfold strRep
      apply Array.ext'
      have s1 : ((" " : Str)).cps.toList = [32] := by decide +kernel
      rw [s1]
      simp
    rw [z]
    congr 1
    apply Array.ext'
    simp
theorem sIx_lt (n d : Nat) (hd : d ≤ n) (o : Option Int) : HT.sIx n d o ≤ n := HT.sIx_le n d hd o
theorem cutS_len (z : Str) (lo hi : Option Int) : (cutS z lo hi).length = min (HT.sIx z.length z.length hi - HT.sIx z.length 0 lo) (z.length - HT.sIx z.length 0 lo) := by
  show ((z.cps.toList.drop (HT.sIx z.length 0 lo)).take (HT.sIx z.length z.length hi - HT.sIx z.length 0 lo)).toArray.size = _
  rw [List.size_toArray, List.length_take, List.length_drop]
  rfl
/-- a write of which n signs are kept -/
def spl (new old : Str) (n : Int) : Str := cutS new none (some n) ++ cutS old (some n) none
theorem spl_len {new old : Str} {n : Int} (h1 : new.length = 384) (h2 : old.length = 384) : (spl new old n).length = 384 := by
  unfold spl
  rw [app_len, cutS_len, cutS_len, h1, h2]
  have e := sIx_lt 384 384 (Nat.le_refl _) (some n)
  have e0 : HT.sIx 384 0 (none : Option Int) = 0 := rfl
  have e1 : HT.sIx 384 384 (none : Option Int) = 384 := rfl
  have e2 : HT.sIx 384 384 (some n) = HT.sIx 384 0 (some n) := rfl
  rw [e0, e1, e2]
  rw [e2] at e
  omega
/-- another sign at a place -/
def spoil (old : Str) (p : Int) (sg : Str) : Str := cutS old none (some p) ++ sg ++ cutS old (some (p + 1)) none
theorem spoil_len {old sg : Str} {p : Int} (h : old.length = 384) (h0 : 0 ≤ p) (h1 : p < 384) (hs : sg.length = 1) : (spoil old p sg).length = 384 := by
  unfold spoil
  rw [app_len, app_len, cutS_len, cutS_len, h, hs]
  obtain ⟨q, rfl⟩ : ∃ q : Nat, p = (q : Int) := ⟨p.toNat, by omega⟩
  have e0 : HT.sIx 384 0 (none : Option Int) = 0 := rfl
  have e1 : HT.sIx 384 384 (none : Option Int) = 384 := rfl
  have e2 := HT.sIx_nat 384 384 q
  have e3 : HT.sIx 384 0 (some ((q : Int) + 1)) = min (q + 1) 384 := HT.sIx_nat 384 0 (q + 1)
  rw [e0, e1, e2, e3]
  omega
/-! ### a disk -/
structure Dk where
  firm : List Str
  fresh : List (Int × Str)
  moves : Int
  keeps : List Int
def fallF : List Str → List (Int × Str) → List Int → List Str
  | f, q :: r, n :: ns => fallF (f.set q.1.toNat (spl q.2 (f.getD q.1.toNat Str.empty) n)) r ns
  | f, _, _ => f
def fallD (s : Dk) (ks : List Int) : Dk := ⟨fallF s.firm s.fresh ks, [], -1, []⟩
def syncF (f : List Str) : List (Int × Str) → List Str
  | [] => f
  | q :: r => syncF (f.set q.1.toNat q.2) r
def readD (s : Dk) (a : Int) : Str := s.fresh.foldl (fun t q => if q.1 = a then q.2 else t) (s.firm.getD a.toNat Str.empty)
/-- whether the ordered fall comes now; the disk behind -/
def movedB (s : Dk) : Bool := decide (s.moves = 0)
def movedD (s : Dk) : Dk := if s.moves = 0 then fallD s s.keeps else { s with moves := if (-1 : Int) > s.moves - 1 then -1 else s.moves - 1 }
def pushD (s : Dk) (a : Int) (t : Str) : Dk := { s with fresh := s.fresh ++ [(a, pg t)] }
def safeD (s : Dk) : Dk := { s with firm := syncF s.firm s.fresh, fresh := [] }
/-- right: some pages of 384 signs, writes to them -/
structure Wf (s : Dk) : Prop where
  lo : 1 ≤ s.firm.length
  hi : s.firm.length ≤ 5
  fm : ∀ t ∈ s.firm, t.length = 384
  fr : ∀ q ∈ s.fresh, 0 ≤ q.1 ∧ q.1 < (s.firm.length : Int) ∧ q.2.length = 384
  kl : s.keeps.length ≤ 100000
theorem getD_len {f : List Str} {i : Nat} (h : ∀ t ∈ f, t.length = 384) (hi : i < f.length) : (f.getD i Str.empty).length = 384 := by
  rw [List.getD_eq_getElem?_getD, List.getElem?_eq_getElem hi]
  exact h _ (List.getElem_mem hi)
theorem mem_set {f : List Str} {i : Nat} {t u : Str} (h : u ∈ f.set i t) : u ∈ f ∨ u = t := List.mem_or_eq_of_mem_set h
theorem fallF_ok : ∀ (rows : List (Int × Str)) (ks : List Int) (f : List Str), (∀ t ∈ f, t.length = 384) → (∀ q ∈ rows, 0 ≤ q.1 ∧ q.1 < (f.length : Int) ∧ q.2.length = 384) →
    (fallF f rows ks).length = f.length ∧ ∀ t ∈ fallF f rows ks, t.length = 384
  | [], ks, f, h, _ => by
    have e : fallF f [] ks = f := by cases ks <;> rfl
    rw [e]
    exact ⟨rfl, h⟩
  | q :: r, [], f, h, _ => ⟨rfl, h⟩
  | q :: r, n :: ns, f, h, hr => by
    obtain ⟨a1, a2, a3⟩ := hr q List.mem_cons_self
    have hs : ∀ t ∈ f.set q.1.toNat (spl q.2 (f.getD q.1.toNat Str.empty) n), t.length = 384 := fun t ht => by
      rcases mem_set ht with h1 | h1
      · exact h t h1
      · rw [h1]
        exact spl_len a3 (getD_len h (by omega))
    obtain ⟨b1, b2⟩ := fallF_ok r ns (f.set q.1.toNat (spl q.2 (f.getD q.1.toNat Str.empty) n)) hs (fun p hp => by
      rw [List.length_set]
      exact hr p (List.mem_cons_of_mem _ hp))
    refine ⟨?_, b2⟩
    show (fallF _ r ns).length = _
    rw [b1, List.length_set]
theorem fallF_take : ∀ (rows : List (Int × Str)) (ks : List Int) (f : List Str) (i : Nat) {q : Int × Str} {n : Int}, rows[i]? = some q → ks[i]? = some n →
    fallF f (rows.take (i + 1)) (ks.take (i + 1)) = (fallF f (rows.take i) (ks.take i)).set q.1.toNat (spl q.2 ((fallF f (rows.take i) (ks.take i)).getD q.1.toNat Str.empty) n)
  | [], _, _, _, _, _, h, _ => by simp at h
  | _ :: _, [], _, _, _, _, _, h => by simp at h
  | a :: r, b :: ns, f, 0, q, n, h1, h2 => by
    have e1 : a = q := by simpa using h1
    have e2 : b = n := by simpa using h2
    subst e1 e2
    simp [fallF]
  | a :: r, b :: ns, f, i + 1, q, n, h1, h2 => by
    have ih := fallF_take r ns (f.set a.1.toNat (spl a.2 (f.getD a.1.toNat Str.empty) b)) i (q := q) (n := n) (by simpa using h1) (by simpa using h2)
    simp only [List.take_succ_cons, fallF]
    exact ih
theorem fallF_all : ∀ (rows : List (Int × Str)) (ks : List Int) (f : List Str) (m : Nat), m = min ks.length rows.length → fallF f (rows.take m) (ks.take m) = fallF f rows ks
  | [], ks, f, m, _ => by
    rw [List.take_nil]
    cases ks <;> cases m <;> rfl
  | a :: r, [], f, m, h => by
    rw [List.take_nil]
    cases (a :: r).take m <;> rfl
  | a :: r, b :: ns, f, m, h => by
    obtain ⟨j, rfl⟩ : ∃ j, m = j + 1 := ⟨min ns.length r.length, by rw [h, List.length_cons, List.length_cons]; omega⟩
    have e : j = min ns.length r.length := by
      rw [List.length_cons, List.length_cons] at h
      omega
    simp only [List.take_succ_cons, fallF]
    exact fallF_all r ns _ j e
theorem syncF_ok : ∀ (rows : List (Int × Str)) (f : List Str), (∀ t ∈ f, t.length = 384) → (∀ q ∈ rows, 0 ≤ q.1 ∧ q.1 < (f.length : Int) ∧ q.2.length = 384) →
    (syncF f rows).length = f.length ∧ ∀ t ∈ syncF f rows, t.length = 384
  | [], f, h, _ => ⟨rfl, h⟩
  | q :: r, f, h, hr => by
    obtain ⟨a1, a2, a3⟩ := hr q List.mem_cons_self
    have hs : ∀ t ∈ f.set q.1.toNat q.2, t.length = 384 := fun t ht => by
      rcases mem_set ht with h1 | h1
      · exact h t h1
      · rw [h1]
        exact a3
    obtain ⟨b1, b2⟩ := syncF_ok r (f.set q.1.toNat q.2) hs (fun p hp => by
      rw [List.length_set]
      exact hr p (List.mem_cons_of_mem _ hp))
    refine ⟨?_, b2⟩
    show (syncF _ r).length = _
    rw [b1, List.length_set]
theorem syncF_take : ∀ (rows : List (Int × Str)) (f : List Str) (i : Nat) {q : Int × Str}, rows[i]? = some q → syncF f (rows.take (i + 1)) = (syncF f (rows.take i)).set q.1.toNat q.2
  | [], _, _, _, h => by simp at h
  | a :: r, f, 0, q, h => by
    have e : a = q := by simpa using h
    subst e
    simp [syncF]
  | a :: r, f, i + 1, q, h => by
    have ih := syncF_take r (f.set a.1.toNat a.2) i (q := q) (by simpa using h)
    simp only [List.take_succ_cons, syncF]
    exact ih
theorem fall_wf {s : Dk} (w : Wf s) (ks : List Int) : Wf (fallD s ks) := by
  obtain ⟨h1, h2⟩ := fallF_ok s.fresh ks s.firm w.fm w.fr
  exact ⟨by show 1 ≤ (fallF _ _ _).length; rw [h1]; exact w.lo, by show (fallF _ _ _).length ≤ 5; rw [h1]; exact w.hi, h2, (fun q hq => by cases hq), Nat.zero_le _⟩
theorem moved_wf {s : Dk} (w : Wf s) : Wf (movedD s) := by
  unfold movedD
  split
  · exact fall_wf w _
  · exact ⟨w.lo, w.hi, w.fm, w.fr, w.kl⟩
theorem push_wf {s : Dk} (w : Wf s) {a : Int} {t : Str} (h0 : 0 ≤ a) (h1 : a < (s.firm.length : Int)) (ht : t.length ≤ 384) : Wf (pushD s a t) :=
  ⟨w.lo, w.hi, w.fm, (fun q hq => by
    rcases List.mem_append.mp hq with h | h
    · exact w.fr q h
    · have e := List.mem_singleton.mp h
      rw [e]
      exact ⟨h0, h1, pg_len ht⟩), w.kl⟩
theorem safe_wf {s : Dk} (w : Wf s) : Wf (safeD s) := by
  obtain ⟨h1, h2⟩ := syncF_ok s.fresh s.firm w.fm w.fr
  exact ⟨by show 1 ≤ (syncF _ _).length; rw [h1]; exact w.lo, by show (syncF _ _).length ≤ 5; rw [h1]; exact w.hi, h2, (fun q hq => by cases hq), w.kl⟩
def spoilD (s : Dk) (a p : Int) (sg : Str) : Dk := { s with firm := s.firm.set a.toNat (spoil (s.firm.getD a.toNat Str.empty) p sg) }
theorem spoil_wf {s : Dk} (w : Wf s) {a p : Int} {sg : Str} (h0 : 0 ≤ a) (h1 : a < (s.firm.length : Int)) (p0 : 0 ≤ p) (p1 : p < 384) (hs : sg.length = 1) : Wf (spoilD s a p sg) := by
  have e : (spoilD s a p sg).firm.length = s.firm.length := List.length_set
  refine ⟨by rw [e]; exact w.lo, by rw [e]; exact w.hi, fun t ht => ?_, fun q hq => by rw [e]; exact w.fr q hq, w.kl⟩
  rcases mem_set ht with h | h
  · exact w.fm t h
  · rw [h]
    exact spoil_len (getD_len w.fm (by omega)) p0 p1 hs
/-- the last write of a page: read by a filter -/
theorem readD_filter (rows : List (Int × Str)) (a : Int) (z : Str) : rows.foldl (fun t q => if q.1 = a then q.2 else t) z = (((rows.filter fun q => decide (q.1 = a)).map (·.2)).getLast?).getD z := by
  induction rows generalizing z with
  | nil => rfl
  | cons q r ih =>
    rw [List.foldl_cons, ih]
    by_cases h : q.1 = a
    · rw [List.filter_cons, if_pos (decide_eq_true h), if_pos h, List.map_cons]
      cases e : (r.filter fun q => decide (q.1 = a)).map (·.2) with
      | nil => rfl
      | cons x y => rw [List.getLast?_cons_cons]; simp [List.getLast?_cons]
    · rw [List.filter_cons, if_neg h]
      simp [h]
theorem readD_len {s : Dk} (w : Wf s) {a : Int} (h0 : 0 ≤ a) (h1 : a < (s.firm.length : Int)) : (readD s a).length = 384 := by
  unfold readD
  have key : ∀ (rows : List (Int × Str)) (z : Str), z.length = 384 → (∀ q ∈ rows, q.2.length = 384) → (rows.foldl (fun t q => if q.1 = a then q.2 else t) z).length = 384 := by
    intro rows
    induction rows with
    | nil => intro z hz _; exact hz
    | cons q r ih =>
      intro z hz hr
      rw [List.foldl_cons]
      refine ih _ ?_ fun p hp => hr p (List.mem_cons_of_mem _ hp)
      split
      · exact hr q List.mem_cons_self
      · exact hz
  exact key _ _ (getD_len w.fm (by omega)) fun q hq => (w.fr q hq).2.2
/-! ### calls -/
inductive Call where
  | write (a : Int) (t : Str) | sync | read (a : Int) | safe (a : Int) | fall (ks : List Int) | order (n : Int) (ks : List Int) | spoil (a p : Int) (sg : Str)
def Call.d : Call → D
  | .write a t => .tup [.str "write", .int a, .str t]
  | .sync => .tup [.str "sync"]
  | .read a => .tup [.str "read", .int a]
  | .safe a => .tup [.str "safe", .int a]
  | .fall ks => .tup [.str "fall", .lst (ks.map D.int)]
  | .order n ks => .tup [.str "order", .int n, .lst (ks.map D.int)]
  | .spoil a p sg => .tup [.str "spoil", .int a, .int p, .str sg]
def inB (s : Dk) (a : Int) : Bool := decide (0 ≤ a ∧ a < (s.firm.length : Int))
def dRec (a : Int) : D := .tup [.str "record", .int a]
def dTold (d : D) : D := .tup [.str "told", d]
def dFallen : D := .tup [.str "fallen", .non]
/-- what a call tells, and the disk behind -/
def tellC (s : Dk) : Call → D × Dk
  | .write a t => if inB s a && decide (t.length ≤ 384) then (if movedB (pushD s a t) then dFallen else dTold .non, movedD (pushD s a t)) else (dRec a, s)
  | .sync => if movedB s then (dFallen, movedD s) else (dTold .non, safeD (movedD s))
  | .read a => if inB s a then (dTold (.str (readD s a)), s) else (dRec a, s)
  | .safe a => if inB s a then (dTold (.str (s.firm.getD a.toNat Str.empty)), s) else (dRec a, s)
  | .fall ks => (dTold .non, fallD s ks)
  | .order n ks => (dTold .non, { s with moves := n, keeps := ks })
  | .spoil a p sg => if inB s a then (dTold .non, spoilD s a p sg) else (dRec a, s)
/-- a call that can come -/
def Call.ok : Call → Prop
  | .write _ t => t.length ≤ 1000
  | .fall ks => ks.length ≤ 1000
  | .order _ ks => ks.length ≤ 1000
  | .spoil _ p sg => 0 ≤ p ∧ p < 384 ∧ sg.length = 1
  | _ => True
end MK


namespace MK
open PySem L2
theorem SqL.up {K : PySem.W.Frag} {H : Hp} {a b : Addr} {o : HO} {xs : List V} (h : b ≠ a) (q : SqL K H b xs) : SqL K (upd H a o) b xs := by
  rcases q with (q | ⟨o', q⟩) | q
  · exact .inl (.inl (by rw [upd_ne h]; exact q))
  · exact .inl (.inr ⟨o', by rw [upd_ne h]; exact q⟩)
  · exact .inr q
theorem SqL.same {K : PySem.W.Frag} {H : Hp} {a : Addr} {xs : List V} : SqL K (upd H a (.lst xs)) a xs := SqL.of upd_same
theorem SqT.same {K : PySem.W.Frag} {H : Hp} {a : Addr} {xs : List V} : SqT K (upd H a (.tup xs)) a xs := SqT.of upd_same
theorem dget_of {H : Hp} {a : Addr} {kvs : List (Key × V)} {k : Str} {v : V} (h : H a = some (.dK kvs)) (e : valV kvs (Sum.inr k) = some v) : DGet H a (.str k) (some v) := by
  rw [← e]
  exact DGet.k (k := Sum.inr k) h
theorem at_i {α : Type} {xs : List α} {z : Int} {v : α} (h0 : 0 ≤ z) (h : xs[z.toNat]? = some v) : atI xs z = some v := by
  have e : z = ((z.toNat : Nat) : Int) := by omega
  rw [e]
  exact atI_nat h
theorem ixN_i {n : Nat} {z : Int} (h0 : 0 ≤ z) (h : z < (n : Int)) : ixN n z = some z.toNat := by
  unfold ixN
  rw [if_pos h0, if_pos h]
theorem szL : sizeLine = 16777216 := by decide
section
variable {K : PySem.W.Frag} {H : Hp} {a : Addr} {xs : List V} {k : Nat} {c : Col}
theorem tyi {i : Int} : TyX K H (.int i) (.type "int") := .base (.int i)
theorem tys {i : Str} : TyX K H (.str i) (.type "str") := .base (.str i)
theorem tyn : TyX K H .non (.type "NoneType") := .base .non
theorem tyb {i : Bool} : TyX K H (.bl i) (.type "bool") := .base (.bl i)
theorem tyl (h : H a = some (.lst xs)) : TyX K H (.ref a) (.type "list") := .base (.lst h)
theorem tyt (h : H a = some (.tup xs)) : TyX K H (.ref a) (.type "tuple") := .base (.tup h)
theorem tyd {kvs : List (Key × V)} (h : H a = some (.dK kvs)) : TyX K H (.ref a) (.type "dict") := .base (.dK h)
theorem SqL.ty (h : SqL K H a xs) : TyX K H (.ref a) (.type "list") := by
  rcases h with (h | ⟨o, h⟩) | ⟨o, _, _, h1, h2, _⟩
  · exact .base (.lst h)
  · exact .base (.frz h)
  · exact .kList h1 h2
theorem SqT.ty (h : SqT K H a xs) : TyX K H (.ref a) (.type "tuple") := by
  rcases h with (h | ⟨o, h⟩) | ⟨o, _, _, h1, h2, _⟩
  · exact .base (.tup h)
  · exact .fTuple h
  · exact .kTuple h1 h2
theorem LsAt.ty (h : LsAt K k c H a xs) : TyX K H (.ref a) (.type "list") := SqL.ty h.sq
theorem TpAt.ty (h : TpAt K k c H a xs) : TyX K H (.ref a) (.type "tuple") := SqT.ty h.sq
end
section
variable {H : Hp} {a b d : Addr} {o u v x : HO}
theorem hp1 (n : a ≠ b) : upd (upd H a o) b u a = some o := (upd_ne n).trans upd_same
theorem hp11 (n : a ≠ b) (n2 : a ≠ d) : upd (upd (upd H a o) b u) d v a = some o := (upd_ne n2).trans (hp1 n)
theorem hp2 (n : a ≠ b) (h : H a = some o) : upd H b u a = some o := (upd_ne n).trans h
theorem hp3 (n : a ≠ b) (n2 : a ≠ d) (h : H a = some o) : upd (upd H b u) d v a = some o := (upd_ne n2).trans (hp2 n h)
end
theorem ne_ho {H : Hp} {a b : Addr} {o u : HO} (h : H a = some o) (g : H b = some u) (n : o ≠ u) : a ≠ b := fun z => by
  rw [z, g] at h
  exact n (Option.some.inj h).symm
theorem dint {a b : Int} (h : decide (V.int a = V.int b) = true) : a = b := V.int.inj (of_decide_eq_true h)
theorem dintn {a b : Int} (h : ¬ decide (V.int a = V.int b) = true) : a ≠ b := fun z => h (decide_eq_true (by rw [z]))
theorem tyv_l {K : PySem.W.Frag} {H : Hp} {a : Addr} {xs : List V} (h : H a = some (.lst xs)) : tyV K "list" (.ref a) H := .inl ⟨rfl, xs, SqL.of h⟩
theorem tyv_s {K : PySem.W.Frag} {H : Hp} {a : Addr} {xs : List V} (h : SqL K H a xs) : tyV K "list" (.ref a) H := .inl ⟨rfl, xs, h⟩
theorem tyv_d {K : PySem.W.Frag} {H : Hp} {a : Addr} {kvs : List (Key × V)} (h : H a = some (.dK kvs)) : tyV K "dict" (.ref a) H := .inr (.inr (.inl ⟨rfl, .inl ⟨kvs, h⟩⟩))
theorem dput_of {H : Hp} {a : Addr} {kvs : List (Key × V)} {k : Str} {v : V} (h : H a = some (.dK kvs)) (l : kvs.length < sizeLine) : DPut H a (.str k) v (upd H a (.dK (putK kvs (Sum.inr k) v))) := .inl ⟨kvs, Sum.inr k, h, rfl, l, rfl⟩
theorem iteT {c A B : Prop} [Decidable c] (h : c) (a : A) : if c then A else B := by rw [if_pos h]; exact a
theorem iteF {c A B : Prop} [Decidable c] (h : ¬ c) (b : B) : if c then A else B := by rw [if_neg h]; exact b

local macro_rules | `(tactic| walk_at "hp") => `(tactic| first
  | assumption
  | exact upd_same
  | (refine hp1 ?_; assumption)
  | (refine hp2 ?_ ?_ <;> assumption)
  | (refine hp11 ?_ ?_ <;> assumption)
  | (refine hp3 ?_ ?_ ?_ <;> assumption))
local macro_rules | `(tactic| walk_at "sq2") => `(tactic| fail)
local macro_rules | `(tactic| walk_at "sq") => `(tactic| first
  | assumption
  | exact upd_same
  | exact SqL.same
  | (refine' SqL.of ?h; (case h => walk_at "hp"))
  | exact SqT.same
  | (refine' SqT.of ?h; (case h => walk_at "hp"))
  | (refine' LsAt.sq ?h; (case h => assumption))
  | (refine' TpAt.sq ?h; (case h => assumption))
  | walk_at "sq2")
local macro_rules | `(tactic| walk_at "ix") => `(tactic| first | rfl | assumption)
local macro_rules | `(tactic| walk_at "dg") => `(tactic| first
  | (refine' dget_of ?h ?e; (case h => walk_at "hp"); (case e => rfl))
  | (refine' dput_of ?h ?l; (case h => walk_at "hp"); (case l => exact Nat.le_of_ble_eq_true rfl))
  | walk_at "sq")
local macro_rules | `(tactic| walk_at "ty") => `(tactic| first
  | exact tyi
  | exact tys
  | exact tyn
  | exact tyb
  | (refine' tyl ?h; (case h => assumption))
  | (refine' tyt ?h; (case h => assumption))
  | (refine' tyd ?h; (case h => assumption))
  | (refine' LsAt.ty ?h; (case h => assumption))
  | (refine' TpAt.ty ?h; (case h => assumption)))
local macro_rules | `(tactic| walk_at "kt") => `(tactic| first
  | (refine kit_ty (r := true) ?_; decide +kernel)
  | (refine kit_ty (r := false) ?_; decide +kernel))
local macro_rules | `(tactic| walk_at "c") => `(tactic| first | assumption | (refine tyv_l (xs := ?xs) ?h; (case h => walk_at "hp")) | (refine tyv_s (xs := ?xs) ?h; (case h => walk_at "sq")) | (refine tyv_d (kvs := ?xs) ?h; (case h => walk_at "hp")) | omega | decide | exact ⟨by assumption, by omega⟩ | exact ⟨by omega, by omega⟩ | exact .inr ⟨by decide, by decide⟩ | exact .inl ⟨by decide, by decide⟩ | exact ⟨by decide, by decide, by decide⟩ | (have := szL; omega) | exact Nat.le_of_ble_eq_true rfl)
local macro_rules | `(tactic| walk_at "u") => `(tactic| first
  | (refine And.intro ?c ?k; (case c => first | assumption | omega))
  | refine ⟨_, rfl, ?_⟩
  | refine ⟨_, _, rfl, rfl, ?_⟩
  | refine ⟨rfl, ?_⟩
  | (refine' ⟨(_ : Addr), _, _, _, rfl, rfl, ?sq, ?ix, ?k⟩; (case sq => walk_at "sq"); (case ix => walk_at "ix"))
  | (refine' ⟨(_ : Addr), _, _, rfl, rfl, ?hp, ?c, ?k⟩; (case hp => walk_at "hp"); (case c => walk_at "c"))
  | refine ⟨_, _, rfl, ?_⟩
  | (refine' ⟨(_ : Addr), _, rfl, ?sq, ?ln, ?k⟩; (case sq => walk_at "sq"); (case ln => rfl))
  | (refine' ⟨(_ : Addr), _, rfl, .inl ?sq, ?k⟩; (case sq => walk_at "sq"))
  | (refine' ⟨(_ : Addr), _, rfl, .inr ?sq, ?k⟩; (case sq => walk_at "sq"))
  | (refine' ⟨(_ : Addr), _, rfl, ?dg, ?k⟩; (case dg => walk_at "dg"))
  | (refine' ⟨(_ : V), _, _, _, _, rfl, .ty _, ?ty, ?kt, ?k⟩; (case ty => walk_at "ty"); (case kt => walk_at "kt"))
  | (refine' ⟨(_ : Addr), _, _, _, _, rfl, ?hp, ?cls, ?na, ?lk, ?k⟩; (case hp => walk_at "hp"); (case cls => assumption); (case na => assumption); (case lk => rfl))
  | (refine' ⟨(_ : Addr), _, _, _, rfl, ?hp, ?cls, ?na, ?ln, ?k⟩; (case hp => walk_at "hp"); (case cls => assumption); (case na => assumption); (case ln => first | decide | exact of_decide_eq_true rfl))
  | (refine' ⟨(_ : Addr), _, _, rfl, ?hp, ?lk, ?k⟩; (case hp => walk_at "hp"); (case lk => rfl))
  | (refine' ⟨(_ : List V), ?hp, ?c, ?k⟩; (case hp => walk_at "hp"); (case c => walk_at "c"))
  | (refine' ⟨(_ : Addr), _, rfl, .inr ?sq, ?fx, ?fs, ?k⟩; (case sq => walk_at "sq"); (case fx => rfl); (case fs => rfl))
  | (refine' ⟨(_ : Addr), _, rfl, .inl ?sq, ?fx, ?fs, ?k⟩; (case sq => walk_at "sq"); (case fx => rfl); (case fs => rfl))
  | (refine' Or.inl ⟨(_ : Addr), _, _, _, rfl, rfl, ?sq, ?ix, ?k⟩; (case sq => walk_at "sq"); (case ix => walk_at "ix"))
  | (refine' Or.inr (Or.inl ⟨(_ : Addr), _, _, _, rfl, rfl, ?sq, ?ix, ?k⟩); (case sq => walk_at "sq"); (case ix => walk_at "ix"))
  | refine .inl ⟨_, rfl, ?_⟩
  | (refine iteT ?c ?k; (case c => decide +kernel))
  | (refine iteF ?c ?k; (case c => decide +kernel))
  | refine And.intro ⟨_, rfl⟩ ?_
  | (refine' And.intro (Exists.intro _ ?c) ?k; (case c => walk_at "sq"))
  | (refine And.intro ?c ?k; (case c => walk_at "c")))
local macro_rules | `(tactic| walk_at "v") => `(tactic| repeat (walk_at "u"))


def top (i : Nat) : Stmt := PySem.Challenge.pw_markwalls_k83_a_disk_that_falls.main.body.getD i (.Pass ⟨0, 0, 0, 0⟩)
abbrev FnP (K : PySem.W.Frag) (x : Str) (st : Stmt) (f : Addr) (fd : FuncData) : Prop := FunD K x x (defArgs st) (defBody st) (defScope st) [] [] f fd
abbrev FnM (K : PySem.W.Frag) (x q : Str) (st : Stmt) (f : Addr) (fd : FuncData) : Prop := FunD K x q (defArgs st) (defBody st) (defScope st) [] [] f fd
abbrev s_is_whole : Stmt := top 4
theorem sc_is_whole : FnScope ["thing"] ["thing"] (defScope s_is_whole) := ⟨rfl, rfl, rfl, by decide +kernel, rfl, by decide +kernel, by decide +kernel⟩
abbrev s_filled : Stmt := top 8
theorem sc_filled : FnScope ["text"] ["text"] (defScope s_filled) := ⟨rfl, rfl, rfl, by decide +kernel, rfl, by decide +kernel, by decide +kernel⟩
abbrev s__law_draws : Stmt := top 11
theorem sc__law_draws : FnScope ["script"] ["script"] (defScope s__law_draws) := ⟨rfl, rfl, rfl, by decide +kernel, rfl, by decide +kernel, by decide +kernel⟩
abbrev s__law_draw : Stmt := top 12
theorem sc__law_draw : FnScope ["draws", "limit", "cell", "value"] ["draws", "limit"] (defScope s__law_draw) := ⟨rfl, rfl, rfl, by decide +kernel, rfl, by decide +kernel, by decide +kernel⟩
abbrev s__law_same : Stmt := top 13
theorem sc__law_same : FnScope ["x", "due", "key", "right", "at"] ["x", "due"] (defScope s__law_same) := ⟨rfl, rfl, rfl, by decide +kernel, rfl, by decide +kernel, by decide +kernel⟩
abbrev s__law_copy : Stmt := top 14
theorem sc__law_copy : FnScope ["thing", "part", "found", "key"] ["thing"] (defScope s__law_copy) := ⟨rfl, rfl, rfl, by decide +kernel, rfl, by decide +kernel, by decide +kernel⟩
abbrev s__law_page : Stmt := top 15
theorem sc__law_page : FnScope ["text"] ["text"] (defScope s__law_page) := ⟨rfl, rfl, rfl, by decide +kernel, rfl, by decide +kernel, by decide +kernel⟩
abbrev s__law_new_disk : Stmt := top 16
theorem sc__law_new_disk : FnScope ["many", "k"] ["many"] (defScope s__law_new_disk) := ⟨rfl, rfl, rfl, by decide +kernel, rfl, by decide +kernel, by decide +kernel⟩
abbrev s__law_fallen : Stmt := top 17
theorem sc__law_fallen : FnScope ["own", "keeps", "k", "at", "text"] ["own", "keeps"] (defScope s__law_fallen) := ⟨rfl, rfl, rfl, by decide +kernel, rfl, by decide +kernel, by decide +kernel⟩
abbrev s__law_moved : Stmt := top 18
theorem sc__law_moved : FnScope ["own"] ["own"] (defScope s__law_moved) := ⟨rfl, rfl, rfl, by decide +kernel, rfl, by decide +kernel, by decide +kernel⟩
abbrev s__law_disk_due : Stmt := top 19
theorem sc__law_disk_due : FnScope ["own", "call", "word", "texts", "at", "text", "page"] ["own", "call"] (defScope s__law_disk_due) := ⟨rfl, rfl, rfl, by decide +kernel, rfl, by decide +kernel, by decide +kernel⟩
abbrev s__law_disk_called : Stmt := top 20
theorem sc__law_disk_called : FnScope ["disk", "call", "e"] ["disk", "call"] (defScope s__law_disk_called) := ⟨rfl, rfl, rfl, by decide +kernel, rfl, by decide +kernel, by decide +kernel⟩
abbrev s__law_keeps : Stmt := top 21
theorem sc__law_keeps : FnScope ["draws", "many", "found", "k", "kind"] ["draws", "many"] (defScope s__law_keeps) := ⟨rfl, rfl, rfl, by decide +kernel, rfl, by decide +kernel, by decide +kernel⟩
abbrev s__law_disk_alike : Stmt := top 22
theorem sc__law_disk_alike : FnScope ["own", "disk", "at", "texts", "page", "text", "due"] ["own", "disk"] (defScope s__law_disk_alike) := ⟨rfl, rfl, rfl, by decide +kernel, rfl, by decide +kernel, by decide +kernel⟩
abbrev s__law_text : Stmt := top 23
theorem sc__law_text : FnScope ["draws", "size", "base", "k"] ["draws"] (defScope s__law_text) := ⟨rfl, rfl, rfl, by decide +kernel, rfl, by decide +kernel, by decide +kernel⟩
abbrev s__law_call : Stmt := top 24
theorem sc__law_call : FnScope ["draws", "own", "kind", "many", "at"] ["draws", "own"] (defScope s__law_call) := ⟨rfl, rfl, rfl, by decide +kernel, rfl, by decide +kernel, by decide +kernel⟩
abbrev s_law : Stmt := top 25
theorem sc_law : FnScope ["script", "draws", "owns", "disks", "k", "many", "which", "call", "given", "told", "at"] ["script"] (defScope s_law) := ⟨rfl, rfl, rfl, by decide +kernel, rfl, by decide +kernel, by decide +kernel⟩
abbrev s_Disk___init__ : Stmt := inClass (top 9) 0
theorem sc_Disk___init__ : FnScope ["self", "many", "_"] ["self", "many"] (defScope s_Disk___init__) := ⟨rfl, rfl, rfl, by decide +kernel, rfl, by decide +kernel, by decide +kernel⟩
abbrev s_Disk_many : Stmt := inClass (top 9) 1
theorem sc_Disk_many : FnScope ["self"] ["self"] (defScope s_Disk_many) := ⟨rfl, rfl, rfl, by decide +kernel, rfl, by decide +kernel, by decide +kernel⟩
abbrev s_Disk_known : Stmt := inClass (top 9) 2
theorem sc_Disk_known : FnScope ["self", "at"] ["self", "at"] (defScope s_Disk_known) := ⟨rfl, rfl, rfl, by decide +kernel, rfl, by decide +kernel, by decide +kernel⟩
abbrev s_Disk_read : Stmt := inClass (top 9) 3
theorem sc_Disk_read : FnScope ["self", "at", "found", "page", "text"] ["self", "at"] (defScope s_Disk_read) := ⟨rfl, rfl, rfl, by decide +kernel, rfl, by decide +kernel, by decide +kernel⟩
abbrev s_Disk_safe : Stmt := inClass (top 9) 4
theorem sc_Disk_safe : FnScope ["self", "at"] ["self", "at"] (defScope s_Disk_safe) := ⟨rfl, rfl, rfl, by decide +kernel, rfl, by decide +kernel, by decide +kernel⟩
abbrev s_Disk_waits : Stmt := inClass (top 9) 5
theorem sc_Disk_waits : FnScope ["self"] ["self"] (defScope s_Disk_waits) := ⟨rfl, rfl, rfl, by decide +kernel, rfl, by decide +kernel, by decide +kernel⟩
abbrev s_Disk_write : Stmt := inClass (top 9) 6
theorem sc_Disk_write : FnScope ["self", "at", "text"] ["self", "at", "text"] (defScope s_Disk_write) := ⟨rfl, rfl, rfl, by decide +kernel, rfl, by decide +kernel, by decide +kernel⟩
abbrev s_Disk_sync : Stmt := inClass (top 9) 7
theorem sc_Disk_sync : FnScope ["self", "at", "text"] ["self"] (defScope s_Disk_sync) := ⟨rfl, rfl, rfl, by decide +kernel, rfl, by decide +kernel, by decide +kernel⟩
abbrev s_Disk_moved : Stmt := inClass (top 9) 8
theorem sc_Disk_moved : FnScope ["self"] ["self"] (defScope s_Disk_moved) := ⟨rfl, rfl, rfl, by decide +kernel, rfl, by decide +kernel, by decide +kernel⟩
abbrev s_Disk_fall : Stmt := inClass (top 9) 9
theorem sc_Disk_fall : FnScope ["self", "keeps", "k", "at", "text"] ["self", "keeps"] (defScope s_Disk_fall) := ⟨rfl, rfl, rfl, by decide +kernel, rfl, by decide +kernel, by decide +kernel⟩
abbrev s_Disk_order : Stmt := inClass (top 9) 10
theorem sc_Disk_order : FnScope ["self", "moves", "keeps"] ["self", "moves", "keeps"] (defScope s_Disk_order) := ⟨rfl, rfl, rfl, by decide +kernel, rfl, by decide +kernel, by decide +kernel⟩
abbrev s_Disk_spoil : Stmt := inClass (top 9) 11
theorem sc_Disk_spoil : FnScope ["self", "at", "place", "sign"] ["self", "at", "place", "sign"] (defScope s_Disk_spoil) := ⟨rfl, rfl, rfl, by decide +kernel, rfl, by decide +kernel, by decide +kernel⟩
/-- built-in names that the module does not bind -/
structure Blt (mg : Str → Option Value) : Prop where
  len : mg "len" = none
  int : mg "int" = none
  str : mg "str" = none
  bool : mg "bool" = none
  dict : mg "dict" = none
  list : mg "list" = none
  tuple : mg "tuple" = none
  range : mg "range" = none
  isinstance : mg "isinstance" = none
  min : mg "min" = none
  max : mg "max" = none
  all : mg "all" = none
/-! ### draws -/
def DrawsAt (K : PySem.W.Frag) (c : Col) (j : Nat) (H : Hp) (a : Addr) : Prop := ∃ (s : Addr) (ns : List Int) (pos d2 d3 : Int), c a = j ∧ H a = some (.lst [.ref s, .int pos, .int d2, .int d3]) ∧ LsAt K 0 c H s (ns.map V.int) ∧ 0 ≤ pos ∧ 0 ≤ d2
theorem DrawsAt.keep {K : PySem.W.Frag} {I : Nat → Prop} {c c' : Col} {j : Nat} {H H' : Hp} {a : Addr} (x : Keeps I c H c' H') (n : ¬ I j) (n0 : ¬ I 0) (h : DrawsAt K c j H a) : DrawsAt K c' j H' a := by
  obtain ⟨s, ns, pos, d2, d3, h1, h2, h3, h4, h5⟩ := h
  exact ⟨s, ns, pos, d2, d3, by rw [x.col _ _ h2]; exact h1, x.keep _ _ h2 (by rw [h1]; exact n), h3.keep x n0, h4, h5⟩
def spDraws (K : PySem.W.Frag) : Sp := fun vs H Q _ => ∃ (c : Col) (a : Addr) (ns : List Int) (j : Nat), vs = [.ref a] ∧ SqL K H a (ns.map V.int) ∧ j ≠ 0 ∧
  ∀ (c' : Col) (H' : Hp) (p : Addr), Keeps None' c H c' H' → DrawsAt K c' j H' p → Q (.ref p) H'
def spDraw (K : PySem.W.Frag) : Sp := fun vs H Q _ => ∃ (c : Col) (j : Nat) (a : Addr) (n : Int), vs = [.ref a, .int n] ∧ 0 < n ∧ n < 1073741824 ∧ j ≠ 0 ∧ DrawsAt K c j H a ∧
  ∀ (v : Int) (H' : Hp), 0 ≤ v → v < n → Keeps (fun z => z = j) c H c H' → DrawsAt K c j H' a → Q (.int v) H'
section
variable {P : Program} {w : World} {K : PySem.W.Frag} {mg : Str → Option Value} {base : Heap} {f C CR fI CF : Addr} {fd : FuncData} {tSIZE : Tok}
theorem ok_draws (F : FnP K "_law_draws" s__law_draws f fd) (m : mg "_law_draws" = some (.ref f)) (b : Binds K fd ["script"] []) (T : Blt mg) : DefOk P w K mg base CX0 1 "_law_draws" ["script"] (spDraws K) := by
  refine mk_def F m b sc__law_draws (fun vs H Q E h => ?_) (fun cdv A outer s H vs Q E hr h => ?_)
  · obtain ⟨c, a, ns, j, rfl, _⟩ := h
    rfl
  · obtain ⟨c, a, ns, j, rfl, hS, hj, k⟩ := h
    refine' ⟨_, PSs.nox ?der, ?rd⟩
    case der => exact
        (pss_one (ps_ret (pe_lst (pa_cons (pe_callTy (call_list_of' (K := K)) (by rfl) T.list (by decide +kernel) (pa_cons (pv 0) pa_nil)) (pa_cons pe_int (pa_cons pe_int (pa_cons pe_int pa_nil)))))))
    case rd =>
      walk_at "v"
      intro l hl
      refine ⟨by show 4 ≤ sizeLine; decide, fun p hp => ?_⟩
      have npl : l ≠ p := fun z => by
        rw [← z, upd_same] at hp
        cases hp
      have hpH : H p = none := by
        rw [upd_ne npl.symm] at hp
        exact hp
      refine k (cset (cset c l 0) p j) _ p ((keeps_new hl).new hp) ⟨l, ns, 0, 0, 1, cset_same, upd_same, ?_, by omega, by omega⟩
      refine LsAt.mk ?_ ?_
      · rw [cset_ne npl, cset_same]
      · rw [upd_ne npl, upd_same]
theorem draw_end {c : Col} {j : Nat} {H : Hp} {a s : Addr} {ns : List Int} {xs : List V} (hc : c a = j) (hj : j ≠ 0) (hA : H a = some (.lst xs)) (hS : LsAt K 0 c H s (ns.map V.int)) {pos d2 d3 : Int} (h1 : 0 ≤ pos) (h2 : 0 ≤ d2) :
    Keeps (fun z => z = j) c H c (upd H a (.lst [.ref s, .int pos, .int d2, .int d3])) ∧ DrawsAt K c j (upd H a (.lst [.ref s, .int pos, .int d2, .int d3])) a :=
  ⟨keeps_put hc, s, ns, pos, d2, d3, hc, upd_same, hS.keep (I := fun z => z = j) (keeps_put hc) (fun z => hj z.symm), h1, h2⟩
theorem ok_draw (F : FnP K "_law_draw" s__law_draw f fd) (m : mg "_law_draw" = some (.ref f)) (b : Binds K fd ["draws", "limit"] []) (T : Blt mg) : DefOk P w K mg base CX0 1 "_law_draw" ["draws", "limit"] (spDraw K) := by
  refine mk_def F m b sc__law_draw (fun vs H Q E h => ?_) (fun cdv A outer s H vs Q E hr h => ?_)
  · obtain ⟨c, j, a, n, rfl, _⟩ := h
    rfl
  · obtain ⟨c, j, a, n, rfl, h0, h1, hj, ⟨s, ns, pos, d2, d3, hc, hA, hS, hp, hd⟩, k⟩ := h
    have fin : ∀ (v pos' d2' d3' : Int), 0 ≤ v → v < n → 0 ≤ pos' → 0 ≤ d2' → Q (.int v) (upd H a (.lst [.ref s, .int pos', .int d2', .int d3'])) := fun v pos' d2' d3' a1 a2 a3 a4 => by
      obtain ⟨e1, e2⟩ := draw_end (K := K) (d3 := d3') hc hj hA hS a3 a4
      exact k v _ a1 a2 e1 e2
    have hsa : s ≠ a ∨ ∀ o, SqL K (upd H a o) s (ns.map V.int) := by
      rcases hS with ⟨z, _⟩ | z
      · exact .inl fun e => by rw [e, hc] at z; exact hj z
      · exact .inr fun o => sql_empty z
    have hS2 : ∀ o, SqL K (upd H a o) s (ns.map V.int) := fun o => by
      rcases hsa with z | z
      · exact SqL.up z hS.sq
      · exact z o
    refine' ⟨_, PSs.nox ?der, ?rd⟩
    case der => exact
        (Evl.pss_cut (ps_if (PW.pt (pw_and (pt_cmpR op_eq (pe_ix (ix_list' (K := K)) (pv 0) pe_int (fun _ _ => rfl)) pe_int (nomark _)) (pw_and1 (pt_cmpR op_lt (pe_ix (ix_list' (K := K)) (pv 0) pe_int (fun _ _ => rfl)) (pe_callB (call_len_seq' (K := K)) (by rfl) T.len (by decide +kernel) (pa_cons (pe_ix (ix_list' (K := K)) (pv 0) pe_int (fun _ _ => rfl)) pa_nil)) (nomark _)))))
          (pss_cons (ps_set (i := 2) sc__law_draw.nd rfl (by first | exact Or.inl rfl | exact Or.inr rfl) (pe_ix (ix_list' (K := K)) (pe_ix (ix_list' (K := K)) (pv 0) pe_int (fun _ _ => rfl)) (pe_ix (ix_list' (K := K)) (pv 0) pe_int (fun _ _ => rfl)) (fun _ _ => rfl)))
         (pss_cons (ps_asg (pe_op op_add (pe_ix (ix_list' (K := K)) (pv 0) pe_int (fun _ _ => rfl)) pe_int) (pg_sub (pv 0) pe_int set_list))
         (pss_cons (ps_if (pt_cmpR op_ge (pv 2) (pe_op op_pow pe_int pe_int) (nomark _))
          (pss_one (ps_asg (pv 2) (pg_sub (pv 0) pe_int set_list)))
          pss_nil)
         (pss_one (ps_asg (pe_op op_mod (pe_callTy call_int1 (by rfl) T.int (by decide +kernel) (pa_cons (pe_op op_add (pe_op op_add (pe_op op_mul (pe_ix (ix_list' (K := K)) (pv 0) pe_int (fun _ _ => rfl)) pe_int) (pv 2)) pe_int) pa_nil)) pe_int) (pg_sub (pv 0) pe_int set_list))))))
          pss_nil)
         (pss_cons (ps_if (pt_cmpR op_gt (pe_ix (ix_list' (K := K)) (pv 0) pe_int (fun _ _ => rfl)) pe_int (nomark _))
          (pss_cons (ps_set (i := 3) sc__law_draw.nd rfl (by first | exact Or.inl rfl | exact Or.inr rfl) (pe_op op_mod (pe_callTy call_int1 (by rfl) T.int (by decide +kernel) (pa_cons (pe_ix (ix_list' (K := K)) (pv 0) pe_int (fun _ _ => rfl)) pa_nil)) (pv 1)))
         (pss_cons (ps_asg (pe_op op_fdiv (pe_ix (ix_list' (K := K)) (pv 0) pe_int (fun _ _ => rfl)) (pv 1)) (pg_sub (pv 0) pe_int set_list))
         (pss_one (ps_ret (pv 3)))))
          pss_nil)
         (pss_cons (ps_asg (pe_op op_mod (pe_callTy call_int1 (by rfl) T.int (by decide +kernel) (pa_cons (pe_op op_add (pe_op op_mul (pe_ix (ix_list' (K := K)) (pv 0) pe_int (fun _ _ => rfl)) pe_int) pe_int) pa_nil)) pe_int) (pg_sub (pv 0) pe_int set_list))
         (pss_one (ps_ret (pe_op op_mod (pe_callTy call_int1 (by rfl) T.int (by decide +kernel) (pa_cons (pe_op op_fdiv (pe_ix (ix_list' (K := K)) (pv 0) pe_int (fun _ _ => rfl)) pe_int) pa_nil)) (pv 1)))))))
    case rd =>
      refine ⟨fun σ' H' => ∃ (pos' d2' d3' : Int) (x : Option V), σ' = [some (.ref a), some (.int n), x, none] ∧ 0 ≤ pos' ∧ 0 ≤ d2' ∧ H' a = some (.lst [.ref s, .int pos', .int d2', .int d3']) ∧ ∀ o, upd H' a o = upd H a o, ?_, ?_⟩
      · walk_at "v"
        refine ite2 (fun c1 => ?_) (fun c1 => ?_)
        · walk_at "v"
          refine ite2 (fun c2 => ?_) (fun c2 => ?_)
          · have hlt : pos < ((ns.map V.int).length : Int) := of_decide_eq_true c2
            have hlt2 : pos.toNat < ns.length := by rw [List.length_map] at hlt; omega
            obtain ⟨cell, hcell⟩ : ∃ cell : Int, atI (ns.map V.int) pos = some (.int cell) := ⟨_, at_i hp (by rw [List.getElem?_map, List.getElem?_eq_getElem hlt2]; rfl)⟩
            walk_at "v"
            refine ite2 (fun c3 => ?_) (fun c3 => ?_)
            · walk_at "v"
              exact ⟨pos + 1, cell, (d3 * 48271 + cell + 13) % 2147483647, some (.int cell), rfl, by omega, Int.le_trans (by decide) (of_decide_eq_true c3), by rw [upd_same]; rfl, fun o => by rw [upd_upd, upd_upd, upd_upd]⟩
            · walk_at "v"
              exact ⟨pos + 1, d2, (d3 * 48271 + cell + 13) % 2147483647, some (.int cell), rfl, by omega, hd, by rw [upd_same]; rfl, fun o => by rw [upd_upd, upd_upd]⟩
          · exact ⟨pos, d2, d3, none, rfl, hp, hd, hA, fun _ => rfl⟩
        · exact ⟨pos, d2, d3, none, rfl, hp, hd, hA, fun _ => rfl⟩
      · rintro σ' H' ⟨pos', d2', d3', x, rfl, hp', hd', hA', hU⟩
        walk_at "v"
        refine ite2 (fun c1 => ?_) (fun c1 => ?_)
        · have hd2 : 0 < d2' := of_decide_eq_true c1
          walk_at "v"
          have e := fin (d2' % n) pos' (d2' / n) d3' (Int.emod_nonneg _ (by omega)) (Int.emod_lt_of_pos _ h0) hp' (Int.ediv_nonneg hd' (by omega))
          rw [hU]
          exact e
        · show tSeq _ _ _ _ _
          walk_at "v"
          have e := fin ((d3' * 69621 + 7) % 2147483629 / 11 % n) pos' d2' ((d3' * 69621 + 7) % 2147483629) (Int.emod_nonneg _ (by omega)) (Int.emod_lt_of_pos _ h0) hp' hd'
          rw [hU]
          exact e
end



open PySem L2


/-- what the module holds -/
structure T83 (P : Program) (K : PySem.W.Frag) (mg : Str → Option Value) (CD CR CF fI : Addr) : Prop extends Blt mg where
  sz : ∃ t, mg "SIZE" = some (.int 384 t)
  lowR : Lo.LowC P K CR fI "at"
  gR : mg "RecordWrong" = some (.ref CR)
  gF : mg "Fallen" = some (.ref CF)
  xF : PySem.W.excIn K CF [.type "Exception", .type "BaseException", .type "object"] "Exception.__new__" = true
  kF : PySem.W.keepIn K (.ref CF) = true
  rF : PySem.W.subIn K (.ref CF) (.type "BaseException") = some true ∧ PySem.W.typeIn K (.ref CF) = some (.type "type")
  cl : Cls K CD
  n1 : NoAttr K CD "firm"
  n2 : NoAttr K CD "fresh"
  n3 : NoAttr K CD "moves"
  n4 : NoAttr K CD "keeps"
  xfR : XfC K CR
  xnR : PySem.W.findIn K (.ref CR) "at" = some none
  mRR : PySem.W.exmOne K (.ref CR) (.ref CR) = some true
  mFR : PySem.W.exmOne K (.ref CF) (.ref CR) = some false
  mFF : PySem.W.exmOne K (.ref CF) (.ref CF) = some true
section
variable {P : Program} {w : World} {K : PySem.W.Frag} {mg : Str → Option Value} {base : Heap} {f CD CR CF fI : Addr} {fd : FuncData}
def spWhole : Sp := fun vs H Q _ => ∃ a : Int, vs = [.int a] ∧ Q (.bl true) H
theorem ok_whole (F : FnP K "is_whole" s_is_whole f fd) (m : mg "is_whole" = some (.ref f)) (b : Binds K fd ["thing"] []) (T : Blt mg) : DefOk P w K mg base CX0 1 "is_whole" ["thing"] spWhole := by
  refine mk_def F m b sc_is_whole (fun vs H Q E h => ?_) (fun cdv A outer s H vs Q E hr h => ?_)
  · obtain ⟨a, rfl, _⟩ := h
    rfl
  · obtain ⟨a, rfl, k⟩ := h
    refine' ⟨_, PSs.nox ?der, ?rd⟩
    case der => exact
        (pss_one (ps_ret (pe_and (pe_callB (call_isi' (K := K)) (by rfl) T.isinstance (by decide +kernel) (pa_cons (pv 0) (pa_cons (pe_bltn (v := .ty "int") (u := .type "int") (by rfl) T.int (by decide +kernel) rfl) pa_nil))) (pe_one (pe_not (pe_callB (call_isi' (K := K)) (by rfl) T.isinstance (by decide +kernel) (pa_cons (pv 0) (pa_cons (pe_bltn (v := .ty "bool") (u := .type "bool") (by rfl) T.bool (by decide +kernel) rfl) pa_nil))))))))
    case rd =>
      walk_at "v"
      exact k
def spFilled : Sp := fun vs H Q _ => ∃ t : Str, vs = [.str t] ∧ Q (.str (Txt.ljust t 384)) H
theorem ok_filled (F : FnP K "filled" s_filled f fd) (m : mg "filled" = some (.ref f)) (b : Binds K fd ["text"] []) (T : Blt mg) (hz : ∃ t, mg "SIZE" = some (.int 384 t)) : DefOk P w K mg base CX0 1 "filled" ["text"] spFilled := by
  obtain ⟨tSIZE, hSIZE⟩ := hz
  refine mk_def F m b sc_filled (fun vs H Q E h => ?_) (fun cdv A outer s H vs Q E hr h => ?_)
  · obtain ⟨a, rfl, _⟩ := h
    rfl
  · obtain ⟨t, rfl, k⟩ := h
    refine' ⟨_, PSs.nox ?der, ?rd⟩
    case der => exact
        (pss_one (ps_ret (pe_bm' (K := K) PySem.F.plainAttrs_str PySem.F.slot_str_ljust PySem.F.type_str_ljust mt_ljust (pv 0) (pa_cons (pe_glob (v := .int 384) (by rfl) hSIZE ⟨_, rfl⟩) pa_nil))))
    case rd =>
      walk_at "v"
      exact k
def spPage : Sp := fun vs H Q _ => ∃ t : Str, vs = [.str t] ∧ t.length ≤ 2000 ∧ Q (.str (pg t)) H
theorem ok_page (F : FnP K "_law_page" s__law_page f fd) (m : mg "_law_page" = some (.ref f)) (b : Binds K fd ["text"] []) (T : Blt mg) : DefOk P w K mg base CX0 1 "_law_page" ["text"] spPage := by
  refine mk_def F m b sc__law_page (fun vs H Q E h => ?_) (fun cdv A outer s H vs Q E hr h => ?_)
  · obtain ⟨a, rfl, _⟩ := h
    rfl
  · obtain ⟨t, rfl, ht, k⟩ := h
    refine' ⟨_, PSs.nox ?der, ?rd⟩
    case der => exact
        (pss_one (ps_ret (pe_op op_add_str (pv 0) (pe_op op_repS pe_str (pe_op op_sub pe_int (pe_callB call_len_str' (by rfl) T.len (by decide +kernel) (pa_cons (pv 0) pa_nil)))))))
    case rd =>
      walk_at "v"
      refine ⟨?_, ?_⟩
      · rw [one_len]
        omega
      · walk_at "v"
        refine ⟨?_, k⟩
        rw [strRep_len, one_len]
        have := szL
        omega
end



open PySem L2


/-! ### the disk's methods -/
def rowsD (fr : List (Int × Str)) : List D := fr.map fun q => D.tup [.int q.1, .str q.2]
structure DkAt (K : PySem.W.Frag) (c : Col) (i : Nat) (H : Hp) (CD p : Addr) (s : Dk) : Prop where
  ex : ∃ (dx lf lr lk : Addr) (rows : List V), c p = i ∧ H p = some (.ins CD dx [("firm", .ref lf), ("fresh", .ref lr), ("moves", .int s.moves), ("keeps", .ref lk)]) ∧ c lf = i ∧ H lf = some (.lst (s.firm.map V.str)) ∧
    c lr = i ∧ H lr = some (.lst rows) ∧ lf ≠ lr ∧ Iss K 0 c H (rowsD s.fresh) rows ∧ LsAt K 0 c H lk (s.keeps.map V.int)
theorem DkAt.keep {K : PySem.W.Frag} {I : Nat → Prop} {c c' : Col} {i : Nat} {H H' : Hp} {CD p : Addr} {s : Dk} (x : Keeps I c H c' H') (n : ¬ I i) (n0 : ¬ I 0) (h : DkAt K c i H CD p s) : DkAt K c' i H' CD p s := by
  obtain ⟨dx, lf, lr, lk, rows, h1, h2, h3, h4, h5, h6, h7, h8, h9⟩ := h.ex
  exact ⟨dx, lf, lr, lk, rows, by rw [x.col _ _ h2]; exact h1, x.keep _ _ h2 (by rw [h1]; exact n), by rw [x.col _ _ h4]; exact h3, x.keep _ _ h4 (by rw [h3]; exact n),
    by rw [x.col _ _ h6]; exact h5, x.keep _ _ h6 (by rw [h5]; exact n), h7, h8.keep x n0, h9.keep x n0⟩
inductive Res where
  | val (v : V) | wrong (a : Int) | fal
/-- what a method's call ends with -/
def Out (K : PySem.W.Frag) (c : Col) (i : Nat) (H : Hp) (CD CR CF p : Addr) (Q : VK) (E : XK) (s' : Dk) : Res → Prop
  | .val v => ∀ c' H', Keeps (fun z => z = i) c H c' H' → DkAt K c' i H' CD p s' → Q v H'
  | .wrong a => ∀ c' H' d, Keeps (fun z => z = i) c H c' H' → DkAt K c' i H' CD p s' → H' d = some (.xd [("at", .int a)]) → E (.ref CR) (some d) H'
  | .fal => ∀ c' H', Keeps (fun z => z = i) c H c' H' → DkAt K c' i H' CD p s' → E (.ref CF) none H'
section
variable {P : Program} {w : World} {K : PySem.W.Frag} {mg : Str → Option Value} {base : Heap} {f CD CR CF fI : Addr} {fd : FuncData}
def spMany (K : PySem.W.Frag) (CD : Addr) : Sp := fun vs H Q _ => ∃ (c : Col) (i : Nat) (p : Addr) (s : Dk), vs = [.ref p] ∧ DkAt K c i H CD p s ∧ Q (.int s.firm.length) H
theorem ok_many (F : FnM K "many" "Disk.many" s_Disk_many f fd) (M : Meth K CD "many" f) (b : Binds K fd ["self"] []) (T : T83 P K mg CD CR CF fI) : MethOk P w K mg base CX0 1 CD "many" ["self"] (spMany K CD) := by
  refine mk_meth F M b sc_Disk_many (fun vs H Q E h => ?_) (fun cdv A outer s H vs Q E hr h => ?_)
  · obtain ⟨c, i, p, s, rfl, _⟩ := h
    rfl
  · obtain ⟨c, i, p, s, rfl, ⟨dx, lf, lr, lk, rows, h1, h2, h3, h4, h5, h6, h7, h8, h9⟩, k⟩ := h
    have hcl := T.cl
    have a1 := T.n1
    refine' ⟨_, PSs.nox ?der, ?rd⟩
    case der => exact
        (pss_one (ps_ret (pe_callB (call_len_seq' (K := K)) (by rfl) T.len (by decide +kernel) (pa_cons (pe_fld' (K := K) (pv 0) rfl) pa_nil))))
    case rd =>
      walk_at "v"
      rw [List.length_map]
      exact k
def spKnown (K : PySem.W.Frag) (CD CR CF : Addr) : Sp := fun vs H Q E => ∃ (c : Col) (i : Nat) (p : Addr) (s : Dk) (a : Int), vs = [.ref p, .int a] ∧ DkAt K c i H CD p s ∧ i ≠ 0 ∧ Out K c i H CD CR CF p Q E s (if inB s a then .val .non else .wrong a)
theorem ok_known (F : FnM K "known" "Disk.known" s_Disk_known f fd) (M : Meth K CD "known" f) (b : Binds K fd ["self", "at"] []) (T : T83 P K mg CD CR CF fI) (G_is_whole : DefOk P w K mg base CX0 1 "is_whole" ["thing"] spWhole) :
    MethOk P w K mg base (CXr P w) 5 CD "known" ["self", "at"] (spKnown K CD CR CF) := by
  refine mk_methX F M b sc_Disk_known (fun vs H Q E h => ?_) (fun cdv A outer s H vs Q E hr h => ?_)
  · obtain ⟨c, i, p, s, a, rfl, _⟩ := h
    rfl
  · obtain ⟨c, i, p, s, a, rfl, hD, hi, k⟩ := h
    obtain ⟨dx, lf, lr, lk, rows, h1, h2, h3, h4, h5, h6, h7, h8, h9⟩ := hD.ex
    have hcl := T.cl
    have a1 := T.n1
    have lowR := T.lowR
    have gR := T.gR
    refine' ⟨_, PSs.same ?der, ?rd⟩
    case der => exact
        (pss_one (ps_if (PW.pt (pw_or (pt_not (pt_val (pe_D G_is_whole (hr.mono (by omega)) (pa_cons (pv 1) pa_nil)))) (pw_or1 (pt_not (pt_chain op_le op_lt pe_int (pv 1) (pe_callB (call_len_seq' (K := K)) (by rfl) T.len (by decide +kernel) (pa_cons (pe_fld' (K := K) (pv 0) rfl) pa_nil)))))))
          (pss_one (ps_raiseLow rfl lowR gR hr (takes_of (E := E) rfl rfl rfl rfl) (pa_cons (pv 1) pa_nil)))
          pss_nil))
    case rd =>
      have bad : inB s a = false → ∀ d, H d = none → E (.ref CR) (some d) (upd H d (.xd [("at", .int a)])) := fun hb d hd => by
        rw [hb] at k
        exact k (cset c d 0) _ d (keeps_new hd) (hD.keep (I := None') (keeps_new hd) (fun z => z) (fun z => z)) upd_same
      walk_at "v"
      refine ite2 (fun c1 => ?_) (fun c1 => ?_)
      · walk_at "v"
        refine ite2 (fun c2 => ?_) (fun c2 => ?_)
        · walk_at "v"
          refine bad ?_
          unfold inB
          simp only [List.length_map, Bool.not_eq_true', decide_eq_false_iff_not] at c2
          exact decide_eq_false fun z => c2 z.2
        · have e : inB s a = true := by
            unfold inB
            simp only [List.length_map, Bool.not_eq_true', decide_eq_false_iff_not, Classical.not_not] at c2
            exact decide_eq_true ⟨of_decide_eq_true c1, c2⟩
          rw [e] at k
          exact k c H Keeps.refl hD
      · walk_at "v"
        refine bad ?_
        unfold inB
        exact decide_eq_false fun z => c1 (decide_eq_true z.1)
end



open PySem L2


theorem rows_get {K : PySem.W.Frag} {k : Nat} {c : Col} {H : Hp} {fr : List (Int × Str)} {rows : List V} {j : Nat} {x : V} (h : Iss K k c H (rowsD fr) rows) (e : rows[j]? = some x) :
    ∃ (q : Int × Str) (ta : Addr), fr[j]? = some q ∧ x = .ref ta ∧ TpAt K k c H ta [.int q.1, .str q.2] := by
  obtain ⟨d, h1, h2⟩ := Iss.getV h e
  unfold rowsD at h1
  rw [List.getElem?_map] at h1
  cases q : fr[j]? with
  | none => rw [q] at h1; cases h1
  | some z =>
    rw [q] at h1
    have e1 : d = D.tup [.int z.1, .str z.2] := (Option.some.inj h1).symm
    subst e1
    cases h2 with
    | tup ht hr =>
      cases hr with
      | cons a r =>
        cases a
        cases r with
        | cons a r =>
          cases a
          cases r
          exact ⟨z, _, rfl, rfl, ht⟩
theorem rows_len {K : PySem.W.Frag} {k : Nat} {c : Col} {H : Hp} {fr : List (Int × Str)} {rows : List V} (h : Iss K k c H (rowsD fr) rows) : rows.length = fr.length := by
  rw [← Iss.len h, rowsD, List.length_map]
theorem firm_at {f : List Str} {a : Int} (h0 : 0 ≤ a) (h1 : a < (f.length : Int)) : atI (f.map V.str) a = some (.str (f.getD a.toNat Str.empty)) := by
  refine at_i h0 ?_
  have : a.toNat < f.length := by omega
  rw [List.getElem?_map, List.getElem?_eq_getElem this, List.getD_eq_getElem?_getD, List.getElem?_eq_getElem this]
  rfl
theorem in_of {s : Dk} {a : Int} (h : inB s a = true) : 0 ≤ a ∧ a < (s.firm.length : Int) := of_decide_eq_true h
def readF (rows : List (Int × Str)) (a : Int) (z : Str) : Str := rows.foldl (fun t q => if q.1 = a then q.2 else t) z
theorem readF_succ {rows : List (Int × Str)} {a : Int} {z : Str} {j : Nat} {q : Int × Str} (e : rows[j]? = some q) : readF (rows.take (j + 1)) a z = if q.1 = a then q.2 else readF (rows.take j) a z := by
  unfold readF
  rw [List.take_add_one, e]
  simp [List.foldl_append]
section
variable {P : Program} {w : World} {K : PySem.W.Frag} {mg : Str → Option Value} {base : Heap} {f CD CR CF fI : Addr} {fd : FuncData}
abbrev Known (P : Program) (w : World) (K : PySem.W.Frag) (mg : Str → Option Value) (base : Heap) (CD CR CF : Addr) : Prop := MethOk P w K mg base (CXr P w) 5 CD "known" ["self", "at"] (spKnown K CD CR CF)
def spRead (K : PySem.W.Frag) (CD CR CF : Addr) : Sp := fun vs H Q E => ∃ (c : Col) (i : Nat) (p : Addr) (s : Dk) (a : Int), vs = [.ref p, .int a] ∧ DkAt K c i H CD p s ∧ i ≠ 0 ∧ Out K c i H CD CR CF p Q E s (if inB s a then .val (.str (readD s a)) else .wrong a)
theorem ok_read (F : FnM K "read" "Disk.read" s_Disk_read f fd) (M : Meth K CD "read" f) (b : Binds K fd ["self", "at"] []) (T : T83 P K mg CD CR CF fI) (G_Disk_known : Known P w K mg base CD CR CF) :
    MethOk P w K mg base (CXr P w) 6 CD "read" ["self", "at"] (spRead K CD CR CF) := by
  refine mk_methX F M b sc_Disk_read (fun vs H Q E h => ?_) (fun cdv A outer s H vs Q E hr h => ?_)
  · obtain ⟨c, i, p, s, a, rfl, _⟩ := h
    rfl
  · obtain ⟨c, i, p, s, a, rfl, hD, hi, k⟩ := h
    obtain ⟨dx, lf, lr, lk, rows, h1, h2, h3, h4, h5, h6, h7, h8, h9⟩ := hD.ex
    have hcl := T.cl
    have a1 := T.n1
    have a2 := T.n2
    refine' ⟨_, PSs.same ?der, ?rd⟩
    case der => exact
        (pss_cons (ps_expr (pe_Mx G_Disk_known (hr.mono (by omega)) (takes_of (E := E) rfl rfl rfl rfl) T.cl (pv 0) (pa_cons (pv 1) pa_nil)))
         (pss_cons (ps_set (i := 2) sc_Disk_read.nd rfl (by first | exact Or.inl rfl | exact Or.inr rfl) (pe_ix (ix_list' (K := K)) (pe_fld' (K := K) (pv 0) rfl) (pv 1) (fun _ _ => rfl)))
         (pss_cons (ps_for (passes_of rfl) rfl (pi_list' (K := K) (pe_fld' (K := K) (pv 0) rfl)) (pg_tup' (K := K) (n := 2) (by rfl) (pgs_cons (pg_name (i := 3) sc_Disk_read.nd rfl (by first | exact Or.inl rfl | exact Or.inr rfl)) (pgs_cons (pg_name (i := 4) sc_Disk_read.nd rfl (by first | exact Or.inl rfl | exact Or.inr rfl)) pgs_nil)))
          (pss_one (ps_if (pt_cmpR op_eq (pv 3) (pv 1) (nomark _))
          (pss_one (ps_set (i := 2) sc_Disk_read.nd rfl (by first | exact Or.inl rfl | exact Or.inr rfl) (pv 4)))
          pss_nil)))
         (pss_one (ps_ret (pv 2))))))
    case rd =>
      walk_at "v"
      refine ⟨c, i, p, s, a, rfl, hD, hi, ?_⟩
      cases hb : inB s a with
      | false =>
        rw [hb] at k
        exact fun c' H' d kp hD' hd => k c' H' d kp hD' hd
      | true =>
        rw [hb] at k
        intro c' H' kp hD'
        obtain ⟨b0, b1⟩ := in_of hb
        obtain ⟨dx', lf', lr', lk', rows', g1, g2, g3, g4, g5, g6, g7, g8, g9⟩ := hD'.ex
        have hat := firm_at b0 b1
        walk_at "v"
        refine for_list (xs := rows') (fun j σ Hx => Hx = H' ∧ ∃ x y, σ = [some (.ref p), some (.int a), some (.str (readF (s.fresh.take j) a (s.firm.getD a.toNat Str.empty))), x, y]) ?_ (fun j σ Hx _ z => by rw [z.1]; exact .inl (.inl g6)) ?_ ?_
        · exact ⟨rfl, none, none, rfl⟩
        · rintro j x σ Hx hx ⟨rfl, x1, x2, rfl⟩
          obtain ⟨q, ta, q1, rfl, q2⟩ := rows_get g8 hx
          have hsucc := readF_succ (a := a) (z := s.firm.getD a.toNat Str.empty) q1
          walk_at "v"
          refine ite2 (fun c1 => ?_) (fun c1 => ?_)
          · walk_at "v"
            rw [if_pos (dint c1)] at hsucc
            exact ⟨_, _, by rw [hsucc]; rfl⟩
          · rw [if_neg (dintn c1)] at hsucc
            refine ⟨rfl, _, _, by rw [hsucc]; rfl⟩
        · rintro σ Hx ⟨rfl, x1, x2, rfl⟩
          walk_at "v"
          rw [rows_len g8, List.take_length]
          exact k c' Hx kp hD'
def spSafe (K : PySem.W.Frag) (CD CR CF : Addr) : Sp := fun vs H Q E => ∃ (c : Col) (i : Nat) (p : Addr) (s : Dk) (a : Int), vs = [.ref p, .int a] ∧ DkAt K c i H CD p s ∧ i ≠ 0 ∧ Out K c i H CD CR CF p Q E s (if inB s a then .val (.str (s.firm.getD a.toNat Str.empty)) else .wrong a)
theorem ok_safe (F : FnM K "safe" "Disk.safe" s_Disk_safe f fd) (M : Meth K CD "safe" f) (b : Binds K fd ["self", "at"] []) (T : T83 P K mg CD CR CF fI) (G_Disk_known : Known P w K mg base CD CR CF) :
    MethOk P w K mg base (CXr P w) 6 CD "safe" ["self", "at"] (spSafe K CD CR CF) := by
  refine mk_methX F M b sc_Disk_safe (fun vs H Q E h => ?_) (fun cdv A outer s H vs Q E hr h => ?_)
  · obtain ⟨c, i, p, s, a, rfl, _⟩ := h
    rfl
  · obtain ⟨c, i, p, s, a, rfl, hD, hi, k⟩ := h
    obtain ⟨dx, lf, lr, lk, rows, h1, h2, h3, h4, h5, h6, h7, h8, h9⟩ := hD.ex
    have hcl := T.cl
    have a1 := T.n1
    refine' ⟨_, PSs.same ?der, ?rd⟩
    case der => exact
        (pss_cons (ps_expr (pe_Mx G_Disk_known (hr.mono (by omega)) (takes_of (E := E) rfl rfl rfl rfl) T.cl (pv 0) (pa_cons (pv 1) pa_nil)))
         (pss_one (ps_ret (pe_ix (ix_list' (K := K)) (pe_fld' (K := K) (pv 0) rfl) (pv 1) (fun _ _ => rfl)))))
    case rd =>
      walk_at "v"
      refine ⟨c, i, p, s, a, rfl, hD, hi, ?_⟩
      cases hb : inB s a with
      | false =>
        rw [hb] at k
        exact fun c' H' d kp hD' hd => k c' H' d kp hD' hd
      | true =>
        rw [hb] at k
        intro c' H' kp hD'
        obtain ⟨b0, b1⟩ := in_of hb
        obtain ⟨dx', lf', lr', lk', rows', g1, g2, g3, g4, g5, g6, g7, g8, g9⟩ := hD'.ex
        have hat := firm_at b0 b1
        walk_at "v"
        exact k c' H' kp hD'
def spWaits (K : PySem.W.Frag) (CD : Addr) : Sp := fun vs H Q _ => ∃ (c : Col) (i : Nat) (p : Addr) (s : Dk), vs = [.ref p] ∧ DkAt K c i H CD p s ∧ Q (.int s.fresh.length) H
theorem ok_waits (F : FnM K "waits" "Disk.waits" s_Disk_waits f fd) (M : Meth K CD "waits" f) (b : Binds K fd ["self"] []) (T : T83 P K mg CD CR CF fI) : MethOk P w K mg base CX0 1 CD "waits" ["self"] (spWaits K CD) := by
  refine mk_meth F M b sc_Disk_waits (fun vs H Q E h => ?_) (fun cdv A outer s H vs Q E hr h => ?_)
  · obtain ⟨c, i, p, s, rfl, _⟩ := h
    rfl
  · obtain ⟨c, i, p, s, rfl, ⟨dx, lf, lr, lk, rows, h1, h2, h3, h4, h5, h6, h7, h8, h9⟩, k⟩ := h
    have hcl := T.cl
    have a2 := T.n2
    refine' ⟨_, PSs.nox ?der, ?rd⟩
    case der => exact
        (pss_one (ps_ret (pe_callB (call_len_seq' (K := K)) (by rfl) T.len (by decide +kernel) (pa_cons (pe_fld' (K := K) (pv 0) rfl) pa_nil))))
    case rd =>
      walk_at "v"
      rw [rows_len h8]
      exact k
def spOrder (K : PySem.W.Frag) (CD CR CF : Addr) : Sp := fun vs H Q E => ∃ (c : Col) (i g : Nat) (p kl : Addr) (s : Dk) (n : Int) (ks : List Int), vs = [.ref p, .int n, .ref kl] ∧ DkAt K c i H CD p s ∧ i ≠ 0 ∧ g ≠ i ∧ LsAt K g c H kl (ks.map V.int) ∧
  Out K c i H CD CR CF p Q E { s with moves := n, keeps := ks } (.val .non)
theorem ok_order (F : FnM K "order" "Disk.order" s_Disk_order f fd) (M : Meth K CD "order" f) (b : Binds K fd ["self", "moves", "keeps"] []) (T : T83 P K mg CD CR CF fI) :
    MethOk P w K mg base CX0 1 CD "order" ["self", "moves", "keeps"] (spOrder K CD CR CF) := by
  refine mk_meth F M b sc_Disk_order (fun vs H Q E h => ?_) (fun cdv A outer s H vs Q E hr h => ?_)
  · obtain ⟨c, i, g, p, kl, s, n, ks, rfl, _⟩ := h
    rfl
  · obtain ⟨c, i, g, p, kl, s, n, ks, rfl, hD, hi, hg, hks, k⟩ := h
    obtain ⟨dx, lf, lr, lk, rows, h1, h2, h3, h4, h5, h6, h7, h8, h9⟩ := hD.ex
    have hcl := T.cl
    have a3 := T.n3
    have a4 := T.n4
    refine' ⟨_, PSs.nox ?der, ?rd⟩
    case der => exact
        (pss_cons (ps_fld' (K := K) (pv 0) (pv 1) rfl)
         (pss_one (ps_fld' (K := K) (pv 0) (pe_callTy (call_list_of' (K := K)) (by rfl) T.list (by decide +kernel) (pa_cons (pv 2) pa_nil)) rfl)))
    case rd =>
      have hks2 : ∀ o, SqL K (upd H p o) kl (ks.map V.int) := fun o => (hks.keep (I := fun z => z = i) (c' := c) (H' := upd H p o) (keeps_put h1) hg).sq
      have hks3 := hks2 (.ins CD dx [("firm", .ref lf), ("fresh", .ref lr), ("moves", .int n), ("keeps", .ref lk)])
      walk_at "v"
      intro l hl
      have npl : p ≠ l := ne_of_none upd_same hl
      have hl0 : H l = none := by
        rw [upd_ne (Ne.symm npl)] at hl
        exact hl
      walk_at "v"
      have kp : Keeps (fun z => z = i) c H (cset c l 0) (upd (upd (upd H p (.ins CD dx [("firm", .ref lf), ("fresh", .ref lr), ("moves", .int n), ("keeps", .ref lk)])) l (.lst (ks.map V.int))) p (.ins CD dx [("firm", .ref lf), ("fresh", .ref lr), ("moves", .int n), ("keeps", .ref l)])) :=
        ((keeps_put h1).new hl).put (by rw [cset_ne npl]; exact h1)
      have nfp := ne_ho h4 h2 (by nofun)
      have nrp := ne_ho h6 h2 (by nofun)
      refine k (cset c l 0) _ kp ⟨dx, lf, lr, l, rows, ?_, upd_same, ?_, ?_, ?_, ?_, h7, h8.keep kp (fun z => hi z.symm), LsAt.mk cset_same ?_⟩
      · rw [kp.col _ _ h2]
        exact h1
      · rw [kp.col _ _ h4]
        exact h3
      · rw [upd_ne nfp, upd_ne (ne_of_none h4 hl0), upd_ne nfp]
        exact h4
      · rw [kp.col _ _ h6]
        exact h5
      · rw [upd_ne nrp, upd_ne (ne_of_none h6 hl0), upd_ne nrp]
        exact h6
      · rw [upd_ne npl.symm, upd_same]
end



open PySem L2


theorem upd_id {H : Hp} {a : Addr} {o : HO} (h : H a = some o) : upd H a o = H := by
  funext b
  unfold upd
  split
  · next z => rw [z, h]
  · rfl
theorem fallF_nil {f : List Str} {ks : List Int} : fallF f [] ks = f := by cases ks <;> rfl
theorem set_map {f : List Str} {i : Nat} {t : Str} : (f.map V.str).set i (.str t) = (f.set i t).map V.str := by rw [List.map_set]
section
variable {P : Program} {w : World} {K : PySem.W.Frag} {mg : Str → Option Value} {base : Heap} {f CD CR CF fI : Addr} {fd : FuncData}
def spFall (K : PySem.W.Frag) (CD CR CF : Addr) : Sp := fun vs H Q E => ∃ (c : Col) (i g : Nat) (p kl : Addr) (s : Dk) (ks : List Int), vs = [.ref p, .ref kl] ∧ DkAt K c i H CD p s ∧ Wf s ∧ i ≠ 0 ∧ g ≠ i ∧ LsAt K g c H kl (ks.map V.int) ∧ ks.length ≤ 100000 ∧
  Out K c i H CD CR CF p Q E (fallD s ks) (.val .non)
theorem ok_fall (F : FnM K "fall" "Disk.fall" s_Disk_fall f fd) (M : Meth K CD "fall" f) (b : Binds K fd ["self", "keeps"] []) (T : T83 P K mg CD CR CF fI) :
    MethOk P w K mg base CX0 1 CD "fall" ["self", "keeps"] (spFall K CD CR CF) := by
  refine mk_meth F M b sc_Disk_fall (fun vs H Q E h => ?_) (fun cdv A outer s H vs Q E hr h => ?_)
  · obtain ⟨c, i, g, p, kl, s, ks, rfl, _⟩ := h
    rfl
  · obtain ⟨c, i, g, p, kl, s, ks, rfl, hD, hW, hi, hg, hks, hkl, k⟩ := h
    obtain ⟨dx, lf, lr, lk, rows, h1, h2, h3, h4, h5, h6, h7, h8, h9⟩ := hD.ex
    have hcl := T.cl
    have a1 := T.n1
    have a2 := T.n2
    have a3 := T.n3
    have a4 := T.n4
    refine' ⟨_, PSs.nox ?der, ?rd⟩
    case der => exact
        (pss_cons (ps_for PassesOwn.never rfl (pi_range1 (by rfl) T.range (pa_cons (pe_callB (call_min2 rfl) (by rfl) T.min (by decide +kernel) (pa_cons (pe_callB (call_len_seq' (K := K)) (by rfl) T.len (by decide +kernel) (pa_cons (pv 1) pa_nil)) (pa_cons (pe_callB (call_len_seq' (K := K)) (by rfl) T.len (by decide +kernel) (pa_cons (pe_fld' (K := K) (pv 0) rfl) pa_nil)) pa_nil))) pa_nil)) (pg_name (i := 2) sc_Disk_fall.nd rfl (by first | exact Or.inl rfl | exact Or.inr rfl))
          (pss_cons (ps_asg (pe_ix (ix_list' (K := K)) (pe_fld' (K := K) (pv 0) rfl) (pv 2) (fun _ _ => rfl)) (pg_tup' (K := K) (n := 2) (by rfl) (pgs_cons (pg_name (i := 3) sc_Disk_fall.nd rfl (by first | exact Or.inl rfl | exact Or.inr rfl)) (pgs_cons (pg_name (i := 4) sc_Disk_fall.nd rfl (by first | exact Or.inl rfl | exact Or.inr rfl)) pgs_nil))))
         (pss_one (ps_asg (pe_op op_add_str (pe_slice sl_str (pv 4) po_none (po_some (pe_ix (ix_list' (K := K)) (pv 1) (pv 2) (fun _ _ => rfl)))) (pe_slice sl_str (pe_ix (ix_list' (K := K)) (pe_fld' (K := K) (pv 0) rfl) (pv 3) (fun _ _ => rfl)) (po_some (pe_ix (ix_list' (K := K)) (pv 1) (pv 2) (fun _ _ => rfl))) po_none)) (pg_sub (pe_fld' (K := K) (pv 0) rfl) (pv 3) set_list)))))
         (pss_cons (ps_fld' (K := K) (pv 0) (pe_lst pa_nil) rfl)
         (pss_cons (ps_fld' (K := K) (pv 0) (pe_un un_neg pe_int) rfl)
         (pss_one (ps_fld' (K := K) (pv 0) (pe_lst pa_nil) rfl)))))
    case rd =>
      have npf : p ≠ lf := ne_ho h2 h4 (by nofun)
      have npr : p ≠ lr := ne_ho h2 h6 (by nofun)
      walk_at "v"
      have hm : (if (rows.length : Int) < ((ks.map V.int).length : Int) then (rows.length : Int) else ((ks.map V.int).length : Int)) = ((min ks.length s.fresh.length : Nat) : Int) := by
        rw [rows_len h8, List.length_map]
        split <;> omega
      rw [hm]
      refine ⟨by omega, ?_⟩
      rw [Int.toNat_natCast]
      refine for_range (fun j σ Hx => (∃ x y z, σ = [some (.ref p), some (.ref kl), x, y, z]) ∧ Hx = upd H lf (.lst ((fallF s.firm (s.fresh.take j) (ks.take j)).map V.str))) ?_ ?_ ?_
      · refine ⟨⟨none, none, none, rfl⟩, ?_⟩
        rw [List.take_zero, fallF_nil, upd_id h4]
      · rintro j σ Hx hj ⟨⟨x, y, z, rfl⟩, rfl⟩
        have hj1 : j < rows.length := by rw [rows_len h8]; omega
        have hj2 : j < ks.length := by omega
        obtain ⟨q, ta, q1, q2, q3⟩ := rows_get h8 (List.getElem?_eq_getElem hj1)
        have hq := hW.fr q (List.mem_of_getElem? q1)
        obtain ⟨n, hn⟩ : ∃ n, ks[j]? = some n := ⟨_, List.getElem?_eq_getElem hj2⟩
        have e1 : atI rows (0 + (j : Int)) = some (.ref ta) := at_i (by omega) (by rw [show (0 + (j : Int)).toNat = j by omega, List.getElem?_eq_getElem hj1, q2])
        have e2 : atI (ks.map V.int) (0 + (j : Int)) = some (.int n) := at_i (by omega) (by rw [show (0 + (j : Int)).toNat = j by omega, List.getElem?_map, hn]; rfl)
        have hstep := fallF_take s.fresh ks s.firm j q1 hn
        obtain ⟨w1, w2⟩ := fallF_ok (s.fresh.take j) (ks.take j) s.firm hW.fm (fun u hu => hW.fr u (List.mem_of_mem_take hu))
        generalize hF : fallF s.firm (s.fresh.take j) (ks.take j) = F at hstep w1 w2
        have kp : Keeps (fun z => z = i) c H c (upd H lf (.lst (F.map V.str))) := keeps_put h3
        have sr : SqL K (upd H lf (.lst (F.map V.str))) lr rows := SqL.of (hp2 h7.symm h6)
        have sk : SqL K (upd H lf (.lst (F.map V.str))) kl (ks.map V.int) := (hks.keep kp hg).sq
        have st := (q3.keep kp (fun z => hi z.symm)).sq
        have e3 : atI (F.map V.str) q.1 = some (.str (F.getD q.1.toNat Str.empty)) := firm_at hq.1 (by rw [w1]; exact hq.2.1)
        have l1 : q.2.length ≤ sizeLine := by rw [hq.2.2]; decide
        have l2' : (F.getD q.1.toNat Str.empty).length = 384 := getD_len w2 (by rw [w1]; omega)
        have l2 : (F.getD q.1.toNat Str.empty).length ≤ sizeLine := by rw [l2']; decide
        have l3 : (cutS q.2 none (some n)).length + (cutS (F.getD q.1.toNat Str.empty) (some n) none).length ≤ sizeLine := by
          have := spl_len (n := n) hq.2.2 l2'
          rw [spl, app_len] at this
          rw [this]
          decide
        have e4 : ixN (F.map V.str).length q.1 = some q.1.toNat := ixN_i hq.1 (by rw [List.length_map, w1]; exact hq.2.1)
        walk_at "v"
        refine ⟨⟨_, _, _, rfl⟩, ?_⟩
        rw [upd_upd, hstep]
        exact congrArg (fun z => upd H lf (HO.lst z)) set_map
      · rintro σ Hx ⟨⟨x, y, z, rfl⟩, rfl⟩
        rw [fallF_all _ _ _ _ rfl]
        generalize hF : fallF s.firm s.fresh ks = F
        walk_at "v"
        intro m1 hm1
        have np1 : p ≠ m1 := ne_of_none (hp2 npf h2) hm1
        have nf1 : lf ≠ m1 := ne_of_none upd_same hm1
        have hm1' : H m1 = none := by rw [upd_ne nf1.symm] at hm1; exact hm1
        walk_at "v"
        intro m2 hm2
        have np2 : p ≠ m2 := ne_of_none upd_same hm2
        have n12 : m1 ≠ m2 := ne_of_none (hp11 np1.symm np1.symm) hm2
        walk_at "v"
        have nf2 : lf ≠ m2 := ne_of_none (by rw [upd_ne npf.symm, upd_ne npf.symm, upd_ne nf1, upd_same]) hm2
        have cp : cset c m1 i p = i := by rw [cset_ne np1]; exact h1
        have cp2 : cset (cset c m1 i) m2 0 p = i := by rw [cset_ne np2]; exact cp
        refine k (cset (cset c m1 i) m2 0) _ (((((((keeps_put h3).new hm1).put cp).put cp).new hm2)).put cp2) ⟨dx, lf, m1, m2, [], cp2, upd_same, ?_, ?_, ?_, ?_, nf1, .nil, LsAt.mk cset_same ?_⟩
        · rw [cset_ne nf2, cset_ne nf1]
          exact h3
        · rw [upd_ne npf.symm, upd_ne nf2, upd_ne npf.symm, upd_ne npf.symm, upd_ne nf1, upd_same, ← hF]
          rfl
        · rw [cset_ne n12, cset_same]
        · rw [upd_ne np1.symm, upd_ne n12, upd_ne np1.symm, upd_ne np1.symm, upd_same]
        · rw [upd_ne np2.symm, upd_same]
          rfl
end



open PySem L2


section
variable {P : Program} {w : World} {K : PySem.W.Frag} {mg : Str → Option Value} {base : Heap} {f CD CR CF fI : Addr} {fd : FuncData}
def spMoved (K : PySem.W.Frag) (CD CR CF : Addr) : Sp := fun vs H Q E => ∃ (c : Col) (i : Nat) (p : Addr) (s : Dk), vs = [.ref p] ∧ DkAt K c i H CD p s ∧ Wf s ∧ i ≠ 0 ∧ Out K c i H CD CR CF p Q E (movedD s) (if movedB s then .fal else .val .non)
theorem ok_moved (F : FnM K "moved" "Disk.moved" s_Disk_moved f fd) (M : Meth K CD "moved" f) (b : Binds K fd ["self"] []) (T : T83 P K mg CD CR CF fI) (G_Disk_fall : MethOk P w K mg base CX0 1 CD "fall" ["self", "keeps"] (spFall K CD CR CF)) :
    MethOk P w K mg base (CXr P w) 6 CD "moved" ["self"] (spMoved K CD CR CF) := by
  refine mk_methX F M b sc_Disk_moved (fun vs H Q E h => ?_) (fun cdv A outer s H vs Q E hr h => ?_)
  · obtain ⟨c, i, p, s, rfl, _⟩ := h
    rfl
  · obtain ⟨c, i, p, s, rfl, hD, hW, hi, k⟩ := h
    obtain ⟨dx, lf, lr, lk, rows, h1, h2, h3, h4, h5, h6, h7, h8, h9⟩ := hD.ex
    have hcl := T.cl
    have a3 := T.n3
    have a4 := T.n4
    have gF := T.gF
    have xF := T.xF
    have kF := T.kF
    have rF := T.rF
    refine' ⟨_, PSs.same ?der, ?rd⟩
    case der => exact
        (pss_cons (ps_if (pt_cmpR op_eq (pe_fld' (K := K) (pv 0) rfl) pe_int (nomark _))
          (pss_cons (ps_expr (pe_M G_Disk_fall (hr.mono (by omega)) T.cl (pv 0) (pa_cons (pe_fld' (K := K) (pv 0) rfl) pa_nil)))
         (pss_one (ps_raise rfl (takes_of (E := E) rfl rfl rfl rfl) (pmk_own PySem.F.excBase_Exception xF gF kF (raises_own rF.1 rF.2) (by rfl)))))
          pss_nil)
         (pss_one (ps_fld' (K := K) (pv 0) (pe_callB (call_max2 rfl) (by rfl) T.max (by decide +kernel) (pa_cons (pe_op op_sub (pe_fld' (K := K) (pv 0) rfl) pe_int) (pa_cons (pe_un un_neg pe_int) pa_nil))) rfl)))
    case rd =>
      walk_at "v"
      refine ite2 (fun c1 => ?_) (fun c1 => ?_)
      · have e0 := dint c1
        have hb : movedB s = true := decide_eq_true e0
        have hd : movedD s = fallD s s.keeps := by unfold movedD; rw [if_pos e0]
        rw [hb, hd] at k
        walk_at "v"
        refine ⟨c, i, 0, p, lk, s, s.keeps, rfl, hD, hW, hi, hi.symm, h9, hW.kl, ?_⟩
        intro c' H' kp hD'
        exact k c' H' kp hD'
      · have e0 := dintn c1
        have hb : movedB s = false := decide_eq_false e0
        rw [hb] at k
        have hd : movedD s = { s with moves := if (-1 : Int) > s.moves - 1 then -1 else s.moves - 1 } := by unfold movedD; rw [if_neg e0]
        rw [hd] at k
        have nfp := ne_ho h4 h2 (by nofun)
        have nrp := ne_ho h6 h2 (by nofun)
        have kp := keeps_put (I := fun z => z = i) (H := H) (o := .ins CD dx [("firm", .ref lf), ("fresh", .ref lr), ("moves", .int (if (-1 : Int) > s.moves - 1 then -1 else s.moves - 1)), ("keeps", .ref lk)]) h1
        walk_at "v"
        refine k c _ kp ⟨dx, lf, lr, lk, rows, h1, upd_same, h3, hp2 nfp h4, h5, hp2 nrp h6, h7, h8.keep kp (fun z => hi z.symm), h9.keep kp (fun z => hi z.symm)⟩
def spWrite (K : PySem.W.Frag) (CD CR CF : Addr) : Sp := fun vs H Q E => ∃ (c : Col) (i : Nat) (p : Addr) (s : Dk) (a : Int) (t : Str), vs = [.ref p, .int a, .str t] ∧ DkAt K c i H CD p s ∧ Wf s ∧ i ≠ 0 ∧ t.length ≤ 2000 ∧ s.fresh.length ≤ 100000 ∧
  (if inB s a && decide (t.length ≤ 384) then Out K c i H CD CR CF p Q E (movedD (pushD s a t)) (if movedB (pushD s a t) then .fal else .val .non) else Out K c i H CD CR CF p Q E s (.wrong a))
theorem ok_write (F : FnM K "write" "Disk.write" s_Disk_write f fd) (M : Meth K CD "write" f) (b : Binds K fd ["self", "at", "text"] []) (T : T83 P K mg CD CR CF fI) (G_Disk_known : Known P w K mg base CD CR CF)
    (G_filled : DefOk P w K mg base CX0 1 "filled" ["text"] spFilled) (G_Disk_moved : MethOk P w K mg base (CXr P w) 6 CD "moved" ["self"] (spMoved K CD CR CF)) :
    MethOk P w K mg base (CXr P w) 7 CD "write" ["self", "at", "text"] (spWrite K CD CR CF) := by
  refine mk_methX F M b sc_Disk_write (fun vs H Q E h => ?_) (fun cdv A outer s H vs Q E hr h => ?_)
  · obtain ⟨c, i, p, s, a, t, rfl, _⟩ := h
    rfl
  · obtain ⟨c, i, p, s, a, t, rfl, hD, hW, hi, ht, hfr, k⟩ := h
    obtain ⟨dx, lf, lr, lk, rows, h1, h2, h3, h4, h5, h6, h7, h8, h9⟩ := hD.ex
    have hcl := T.cl
    have a2 := T.n2
    have gR := T.gR
    have lowR := T.lowR
    obtain ⟨tSIZE, hSIZE⟩ := T.sz
    refine' ⟨_, PSs.same ?der, ?rd⟩
    case der => exact
        (pss_cons (ps_expr (pe_Mx G_Disk_known (hr.mono (by omega)) (takes_of (E := E) rfl rfl rfl rfl) T.cl (pv 0) (pa_cons (pv 1) pa_nil)))
         (pss_cons (ps_if (pt_cmpR op_gt (pe_callB call_len_str' (by rfl) T.len (by decide +kernel) (pa_cons (pv 2) pa_nil)) (pe_glob (v := .int 384) (by rfl) hSIZE ⟨_, rfl⟩) (nomark _))
          (pss_one (ps_raiseLow rfl lowR gR hr (takes_of (E := E) rfl rfl rfl rfl) (pa_cons (pv 1) pa_nil)))
          pss_nil)
         (pss_cons (ps_expr (pe_bm' (K := K) PySem.F.plainAttrs_list PySem.F.slot_list_append PySem.F.type_list_append mt_append (pe_fld' (K := K) (pv 0) rfl) (pa_cons (pe_tup (pa_cons (pv 1) (pa_cons (pe_D G_filled (hr.mono (by omega)) (pa_cons (pv 2) pa_nil)) pa_nil))) pa_nil)))
         (pss_one (ps_expr (pe_Mx0 G_Disk_moved (hr.mono (by omega)) (takes_of (E := E) rfl rfl rfl rfl) T.cl (pv 0)))))))
    case rd =>
      walk_at "v"
      refine ⟨c, i, p, s, a, rfl, hD, hi, ?_⟩
      cases hb : inB s a with
      | false =>
        rw [hb] at k
        exact fun c' H' d kp hD' hd => k c' H' d kp hD' hd
      | true =>
        rw [hb] at k
        intro c' H' kp hD'
        obtain ⟨b0, b1⟩ := in_of hb
        obtain ⟨dx', lf', lr', lk', rows', g1, g2, g3, g4, g5, g6, g7, g8, g9⟩ := hD'.ex
        have lz : t.length ≤ sizeLine := by have := szL; omega
        walk_at "v"
        refine ite2 (fun c1 => ?_) (fun c1 => ?_)
        · have e0 : ¬ t.length ≤ 384 := by have := of_decide_eq_true c1; omega
          have e1 : (true && decide (t.length ≤ 384)) = false := by rw [decide_eq_false e0]; rfl
          rw [if_neg (by rw [e1]; nofun)] at k
          walk_at "v"
          intro d hd
          exact k (cset c' d 0) _ d (kp.new hd) (hD'.keep (I := None') (keeps_new hd) (fun z => z) (fun z => z)) upd_same
        · have e0 : t.length ≤ 384 := by
            have := c1
            simp only [decide_eq_true_eq] at this
            omega
          have e1 : (true && decide (t.length ≤ 384)) = true := by rw [decide_eq_true e0]; rfl
          rw [if_pos e1] at k
          have hl := rows_len g8
          have hls : rows'.length < sizeLine := by have := szL; omega
          walk_at "v"
          intro m1 hm1
          have nl1 : lr' ≠ m1 := ne_of_none g6 hm1
          have np1 : p ≠ m1 := ne_of_none g2 hm1
          have npr : p ≠ lr' := ne_ho g2 g6 (by nofun)
          have nfr := g7
          have nfp : lf' ≠ p := ne_ho g4 g2 (by nofun)
          have nf1 : lf' ≠ m1 := ne_of_none g4 hm1
          walk_at "v"
          rw [ljust_pg e0]
          have cl : cset c' m1 0 lr' = i := by rw [cset_ne nl1]; exact g5
          have kp2 : Keeps (fun z => z = i) c' H' (cset c' m1 0) (upd (upd H' m1 (.tup [.int a, .str (pg t)])) lr' (.lst (rows' ++ [.ref m1]))) := (keeps_new hm1).put cl
          have hD2 : DkAt K (cset c' m1 0) i (upd (upd H' m1 (.tup [.int a, .str (pg t)])) lr' (.lst (rows' ++ [.ref m1]))) CD p (pushD s a t) := by
            refine ⟨dx', lf', lr', lk', rows' ++ [.ref m1], by rw [cset_ne np1]; exact g1, hp3 np1 npr g2, by rw [cset_ne nf1]; exact g3, hp3 nf1 nfr g4, cl, upd_same, g7, ?_, g9.keep kp2 (fun z => hi z.symm)⟩
            show Iss K 0 _ _ (rowsD (s.fresh ++ [(a, pg t)])) _
            unfold rowsD
            rw [List.map_append]
            exact Iss.app (g8.keep kp2 (fun z => hi z.symm)) (Iss.one (.tup (TpAt.mk cset_same (hp1 nl1.symm)) (.cons (.int a) (.cons (.str _) .nil))))
          refine ⟨cset c' m1 0, i, p, pushD s a t, rfl, hD2, push_wf hW b0 b1 e0, hi, ?_⟩
          cases hm : movedB (pushD s a t) with
          | true =>
            rw [hm] at k
            intro c3 H3 kp3 hD3
            exact k c3 H3 ((kp.trans kp2).trans kp3) hD3
          | false =>
            rw [hm] at k
            intro c3 H3 kp3 hD3
            exact k c3 H3 ((kp.trans kp2).trans kp3) hD3
end



open PySem L2


section
variable {P : Program} {w : World} {K : PySem.W.Frag} {mg : Str → Option Value} {base : Heap} {f CD CR CF fI : Addr} {fd : FuncData}
def spSync (K : PySem.W.Frag) (CD CR CF : Addr) : Sp := fun vs H Q E => ∃ (c : Col) (i : Nat) (p : Addr) (s : Dk), vs = [.ref p] ∧ DkAt K c i H CD p s ∧ Wf s ∧ i ≠ 0 ∧ Out K c i H CD CR CF p Q E (if movedB s then movedD s else safeD (movedD s)) (if movedB s then .fal else .val .non)
theorem ok_sync (F : FnM K "sync" "Disk.sync" s_Disk_sync f fd) (M : Meth K CD "sync" f) (b : Binds K fd ["self"] []) (T : T83 P K mg CD CR CF fI) (G_Disk_moved : MethOk P w K mg base (CXr P w) 6 CD "moved" ["self"] (spMoved K CD CR CF)) :
    MethOk P w K mg base (CXr P w) 7 CD "sync" ["self"] (spSync K CD CR CF) := by
  refine mk_methX F M b sc_Disk_sync (fun vs H Q E h => ?_) (fun cdv A outer s H vs Q E hr h => ?_)
  · obtain ⟨c, i, p, s, rfl, _⟩ := h
    rfl
  · obtain ⟨c, i, p, s, rfl, hD, hW, hi, k⟩ := h
    obtain ⟨dx, lf, lr, lk, rows, h1, h2, h3, h4, h5, h6, h7, h8, h9⟩ := hD.ex
    have hcl := T.cl
    have a1 := T.n1
    have a2 := T.n2
    refine' ⟨_, PSs.same ?der, ?rd⟩
    case der => exact
        (pss_cons (ps_expr (pe_Mx0 G_Disk_moved (hr.mono (by omega)) (takes_of (E := E) rfl rfl rfl rfl) T.cl (pv 0)))
         (pss_cons (ps_for (passes_of rfl) rfl (pi_list' (K := K) (pe_fld' (K := K) (pv 0) rfl)) (pg_tup' (K := K) (n := 2) (by rfl) (pgs_cons (pg_name (i := 1) sc_Disk_sync.nd rfl (by first | exact Or.inl rfl | exact Or.inr rfl)) (pgs_cons (pg_name (i := 2) sc_Disk_sync.nd rfl (by first | exact Or.inl rfl | exact Or.inr rfl)) pgs_nil)))
          (pss_one (ps_asg (pv 2) (pg_sub (pe_fld' (K := K) (pv 0) rfl) (pv 1) set_list))))
         (pss_one (ps_fld' (K := K) (pv 0) (pe_lst pa_nil) rfl))))
    case rd =>
      walk_at "v"
      refine ⟨c, i, p, s, rfl, hD, hW, hi, ?_⟩
      cases hm : movedB s with
      | true =>
        rw [hm] at k
        exact fun c' H' kp hD' => k c' H' kp hD'
      | false =>
        rw [hm] at k
        intro c' H' kp hD'
        have hW' : Wf (movedD s) := moved_wf hW
        have k' : ∀ c'' H'', Keeps (fun z => z = i) c H c'' H'' → DkAt K c'' i H'' CD p (safeD (movedD s)) → Q .non H'' := k
        generalize movedD s = s1 at hD' hW' k'
        obtain ⟨dx', lf', lr', lk', rows', g1, g2, g3, g4, g5, g6, g7, g8, g9⟩ := hD'.ex
        have npf : p ≠ lf' := ne_ho g2 g4 (by nofun)
        walk_at "v"
        refine for_list (xs := rows') (fun j σ Hx => (∃ x y, σ = [some (.ref p), x, y]) ∧ Hx = upd H' lf' (.lst ((syncF s1.firm (s1.fresh.take j)).map V.str))) ?_ (fun j σ Hx _ z => by rw [z.2]; exact .inl (.inl (hp2 g7.symm g6))) ?_ ?_
        · refine ⟨⟨none, none, rfl⟩, ?_⟩
          rw [List.take_zero, syncF, upd_id g4]
        · rintro j x σ Hx hx ⟨⟨x1, x2, rfl⟩, rfl⟩
          obtain ⟨q, ta, q1, rfl, q3⟩ := rows_get g8 hx
          have hq := hW'.fr q (List.mem_of_getElem? q1)
          have hstep := syncF_take s1.fresh s1.firm j q1
          obtain ⟨w1, w2⟩ := syncF_ok (s1.fresh.take j) s1.firm hW'.fm (fun u hu => hW'.fr u (List.mem_of_mem_take hu))
          generalize hF : syncF s1.firm (s1.fresh.take j) = F at hstep w1 w2
          have kp1 : Keeps (fun z => z = i) c' H' c' (upd H' lf' (.lst (F.map V.str))) := keeps_put g3
          have st := (q3.keep kp1 (fun z => hi z.symm)).sq
          have e4 : ixN (F.map V.str).length q.1 = some q.1.toNat := ixN_i hq.1 (by rw [List.length_map, w1]; exact hq.2.1)
          walk_at "v"
          refine ⟨⟨_, _, rfl⟩, ?_⟩
          rw [upd_upd, hstep]
          exact congrArg (fun z => upd H' lf' (HO.lst z)) set_map
        · rintro σ Hx ⟨⟨x1, x2, rfl⟩, rfl⟩
          rw [rows_len g8, List.take_length]
          generalize hF : syncF s1.firm s1.fresh = F
          walk_at "v"
          intro m1 hm1
          have np1 : p ≠ m1 := ne_of_none (hp2 npf g2) hm1
          have nf1 : lf' ≠ m1 := ne_of_none upd_same hm1
          have hm1' : H' m1 = none := by rw [upd_ne nf1.symm] at hm1; exact hm1
          walk_at "v"
          have cp : cset c' m1 i p = i := by rw [cset_ne np1]; exact g1
          have kp3 : Keeps (fun z => z = i) c' H' (cset c' m1 i) (upd (upd (upd H' lf' (.lst (F.map V.str))) m1 (.lst [])) p (.ins CD dx' [("firm", .ref lf'), ("fresh", .ref m1), ("moves", .int s1.moves), ("keeps", .ref lk')])) := (((keeps_put g3).new hm1).put cp)
          refine k' (cset c' m1 i) _ (kp.trans kp3) ⟨dx', lf', m1, lk', [], cp, upd_same, ?_, ?_, cset_same, ?_, nf1, .nil, g9.keep kp3 (fun z => hi z.symm)⟩
          · rw [cset_ne nf1]
            exact g3
          · rw [upd_ne npf.symm, upd_ne nf1, upd_same, ← hF]
            rfl
          · rw [upd_ne np1.symm, upd_same]
def spSpoil (K : PySem.W.Frag) (CD CR CF : Addr) : Sp := fun vs H Q E => ∃ (c : Col) (i : Nat) (p : Addr) (s : Dk) (a n : Int) (sg : Str), vs = [.ref p, .int a, .int n, .str sg] ∧ DkAt K c i H CD p s ∧ Wf s ∧ i ≠ 0 ∧ 0 ≤ n ∧ n < 384 ∧ sg.length = 1 ∧
  (if inB s a then Out K c i H CD CR CF p Q E (spoilD s a n sg) (.val .non) else Out K c i H CD CR CF p Q E s (.wrong a))
theorem ok_spoil (F : FnM K "spoil" "Disk.spoil" s_Disk_spoil f fd) (M : Meth K CD "spoil" f) (b : Binds K fd ["self", "at", "place", "sign"] []) (T : T83 P K mg CD CR CF fI) (G_Disk_known : Known P w K mg base CD CR CF) :
    MethOk P w K mg base (CXr P w) 6 CD "spoil" ["self", "at", "place", "sign"] (spSpoil K CD CR CF) := by
  refine mk_methX F M b sc_Disk_spoil (fun vs H Q E h => ?_) (fun cdv A outer s H vs Q E hr h => ?_)
  · obtain ⟨c, i, p, s, a, n, sg, rfl, _⟩ := h
    rfl
  · obtain ⟨c, i, p, s, a, n, sg, rfl, hD, hW, hi, n0, n1, hsg, k⟩ := h
    obtain ⟨dx, lf, lr, lk, rows, h1, h2, h3, h4, h5, h6, h7, h8, h9⟩ := hD.ex
    have hcl := T.cl
    have a1 := T.n1
    refine' ⟨_, PSs.same ?der, ?rd⟩
    case der => exact
        (pss_cons (ps_expr (pe_Mx G_Disk_known (hr.mono (by omega)) (takes_of (E := E) rfl rfl rfl rfl) T.cl (pv 0) (pa_cons (pv 1) pa_nil)))
         (pss_one (ps_asg (pe_op op_add_str (pe_op op_add_str (pe_slice sl_str (pe_ix (ix_list' (K := K)) (pe_fld' (K := K) (pv 0) rfl) (pv 1) (fun _ _ => rfl)) po_none (po_some (pv 2))) (pv 3)) (pe_slice sl_str (pe_ix (ix_list' (K := K)) (pe_fld' (K := K) (pv 0) rfl) (pv 1) (fun _ _ => rfl)) (po_some (pe_op op_add (pv 2) pe_int)) po_none)) (pg_sub (pe_fld' (K := K) (pv 0) rfl) (pv 1) set_list))))
    case rd =>
      walk_at "v"
      refine ⟨c, i, p, s, a, rfl, hD, hi, ?_⟩
      cases hb : inB s a with
      | false =>
        rw [hb] at k
        exact fun c' H' d kp hD' hd => k c' H' d kp hD' hd
      | true =>
        rw [hb] at k
        intro c' H' kp hD'
        obtain ⟨b0, b1⟩ := in_of hb
        obtain ⟨dx', lf', lr', lk', rows', g1, g2, g3, g4, g5, g6, g7, g8, g9⟩ := hD'.ex
        have k' : ∀ c'' H'', Keeps (fun z => z = i) c H c'' H'' → DkAt K c'' i H'' CD p (spoilD s a n sg) → Q .non H'' := k
        have hat := firm_at b0 b1
        have lo := getD_len (i := a.toNat) hW.fm (by omega)
        have l1 : (s.firm.getD a.toNat Str.empty).length ≤ sizeLine := by rw [lo]; decide
        have lsp := spoil_len (sg := sg) lo n0 n1 hsg
        have e4 : ixN (s.firm.map V.str).length a = some a.toNat := ixN_i b0 (by rw [List.length_map]; exact b1)
        have l2 : (cutS (s.firm.getD a.toNat Str.empty) none (some n)).length + sg.length ≤ sizeLine := by
          unfold spoil at lsp
          rw [app_len, app_len] at lsp
          have := szL
          omega
        have l3 : (cutS (s.firm.getD a.toNat Str.empty) none (some n) ++ sg).length + (cutS (s.firm.getD a.toNat Str.empty) (some (n + 1)) none).length ≤ sizeLine := by
          unfold spoil at lsp
          rw [app_len] at lsp
          rw [lsp]
          decide
        walk_at "v"
        have npf : p ≠ lf' := ne_ho g2 g4 (by nofun)
        have kp1 := keeps_put (I := fun z => z = i) (H := H') (o := .lst ((s.firm.map V.str).set a.toNat (.str (spoil (s.firm.getD a.toNat Str.empty) n sg)))) g3
        refine k' c' _ (kp.trans kp1) ⟨dx', lf', lr', lk', rows', g1, hp2 npf g2, g3, ?_, g5, hp2 g7.symm g6, g7, g8.keep kp1 (fun z => hi z.symm), g9.keep kp1 (fun z => hi z.symm)⟩
        rw [upd_same]
        exact congrArg (fun z => some (HO.lst z)) set_map
end



open PySem L2


/-! ### new disks -/
def newDk (n : Nat) : Dk := ⟨List.replicate n (pg ""), [], -1, []⟩
theorem new_wf {n : Nat} (h : 1 ≤ n) (h5 : n ≤ 5) : Wf (newDk n) := by
  refine ⟨?_, ?_, fun t ht => ?_, (fun q hq => by cases hq), Nat.zero_le _⟩
  · show 1 ≤ (List.replicate n _).length
    rw [List.length_replicate]
    exact h
  · show (List.replicate n _).length ≤ 5
    rw [List.length_replicate]
    exact h5
  · rw [List.eq_of_mem_replicate ht]
    exact pg_len (by decide)
theorem rep_succ {α : Type} (n : Nat) (a : α) : List.replicate n a ++ [a] = List.replicate (n + 1) a := by
  rw [List.replicate_succ', ]
/-- the law's own account of a disk, a dict -/
structure OwnAt (K : PySem.W.Frag) (c : Col) (i : Nat) (H : Hp) (p : Addr) (s : Dk) : Prop where
  ex : ∃ (lf lr lk : Addr) (rows : List V), c p = i ∧ H p = some (.dK [(Sum.inr "safe", .ref lf), (Sum.inr "rest", .ref lr), (Sum.inr "moves", .int s.moves), (Sum.inr "keeps", .ref lk)]) ∧ c lf = i ∧ H lf = some (.lst (s.firm.map V.str)) ∧
    c lr = i ∧ H lr = some (.lst rows) ∧ lf ≠ lr ∧ Iss K 0 c H (rowsD s.fresh) rows ∧ LsAt K 0 c H lk (s.keeps.map V.int)
theorem OwnAt.keep {K : PySem.W.Frag} {I : Nat → Prop} {c c' : Col} {i : Nat} {H H' : Hp} {p : Addr} {s : Dk} (x : Keeps I c H c' H') (n : ¬ I i) (n0 : ¬ I 0) (h : OwnAt K c i H p s) : OwnAt K c' i H' p s := by
  obtain ⟨lf, lr, lk, rows, h1, h2, h3, h4, h5, h6, h7, h8, h9⟩ := h.ex
  exact ⟨lf, lr, lk, rows, by rw [x.col _ _ h2]; exact h1, x.keep _ _ h2 (by rw [h1]; exact n), by rw [x.col _ _ h4]; exact h3, x.keep _ _ h4 (by rw [h3]; exact n),
    by rw [x.col _ _ h6]; exact h5, x.keep _ _ h6 (by rw [h5]; exact n), h7, h8.keep x n0, h9.keep x n0⟩
section
variable {P : Program} {w : World} {K : PySem.W.Frag} {mg : Str → Option Value} {base : Heap} {f CD CR CF fI : Addr} {fd : FuncData}
def spInit (K : PySem.W.Frag) (CD : Addr) : Sp := fun vs H Q _ => ∃ (c : Col) (i : Nat) (p dx : Addr) (n : Nat), vs = [.ref p, .int n] ∧ n ≤ 5 ∧ c p = i ∧ i ≠ 0 ∧ H p = some (.ins CD dx []) ∧
  ∀ c' H', Keeps (fun z => z = i) c H c' H' → DkAt K c' i H' CD p (newDk n) → Q .non H'
theorem ok_init (F : FnM K "__init__" "Disk.__init__" s_Disk___init__ f fd) (M : Mk K CD f) (m : mg "Disk" = some (.ref CD)) (b : Binds K fd ["self", "many"] []) (T : T83 P K mg CD CR CF fI) (G_filled : DefOk P w K mg base CX0 1 "filled" ["text"] spFilled) :
    MkOk P w K mg base CX0 2 CD "Disk" ["self", "many"] (spInit K CD) := by
  refine mk_mk F M m b sc_Disk___init__ (fun vs H Q E h => ?_) (fun cdv A outer s H vs Q E hr h => ?_)
  · obtain ⟨c, i, p, dx, n, rfl, _⟩ := h
    rfl
  · obtain ⟨c, i, p, dx, n, rfl, hn, hc, hi, hP, k⟩ := h
    have hcl := T.cl
    have a1 := T.n1
    have a2 := T.n2
    have a3 := T.n3
    have a4 := T.n4
    refine' ⟨_, PSs.nox ?der, ?rd⟩
    case der => exact
        (pss_cons (ps_fld' (K := K) (pv 0) (pe_lc (own := [("_", 2)]) rfl sc_Disk___init__.nd (pi_range1 (by rfl) T.range (pa_cons (pv 1) pa_nil)) (blkOk_by (own := [("_", 2)]) (N := ["self", "many", "_"]) (sc := (defScope s_Disk___init__)) (by decide +kernel)) (fun _ _ _ _ _ => (pg_name (i := 2) sc_Disk___init__.nd rfl (by first | exact Or.inl rfl | exact Or.inr rfl))) (fun _ _ _ _ _ => pts_nil) (fun _ _ _ _ _ => (pe_D G_filled (hr.mono (by omega)) (pa_cons pe_str pa_nil)))) rfl)
         (pss_cons (ps_fld' (K := K) (pv 0) (pe_lst pa_nil) rfl)
         (pss_cons (ps_fld' (K := K) (pv 0) (pe_un un_neg pe_int) rfl)
         (pss_one (ps_fld' (K := K) (pv 0) (pe_lst pa_nil) rfl)))))
    case rd =>
      walk_at "v"
      rw [Int.toNat_natCast]
      intro m0 hm0
      refine lc_range (fun j Hx => Hx = upd H m0 (.lst (List.replicate j (.str (pg ""))))) rfl ?_ ?_
      · rintro j Hx hj rfl
        have hlen : (List.replicate j (V.str (pg ""))).length < sizeLine := by
          rw [List.length_replicate]
          have := szL
          omega
        walk_at "v"
        rw [upd_upd, ljust_pg (by decide), List.replicate_succ']
      · rintro Hx rfl
        have np0 : p ≠ m0 := ne_of_none hP hm0
        walk_at "v"
        intro m1 hm1
        have np1 : p ≠ m1 := ne_of_none upd_same hm1
        have n01 : m0 ≠ m1 := ne_of_none (hp1 np0.symm) hm1
        walk_at "v"
        intro m2 hm2
        have np2 : p ≠ m2 := ne_of_none upd_same hm2
        have n02 : m0 ≠ m2 := ne_of_none (by rw [upd_ne np0.symm, upd_ne np0.symm, upd_ne n01, upd_ne np0.symm, upd_same]) hm2
        have n12 : m1 ≠ m2 := ne_of_none (by rw [upd_ne np1.symm, upd_ne np1.symm, upd_same]) hm2
        walk_at "v"
        have cp0 : cset c m0 i p = i := by rw [cset_ne np0]; exact hc
        have cp1 : cset (cset c m0 i) m1 i p = i := by rw [cset_ne np1]; exact cp0
        have cp2 : cset (cset (cset c m0 i) m1 i) m2 0 p = i := by rw [cset_ne np2]; exact cp1
        refine k (cset (cset (cset c m0 i) m1 i) m2 0) _ (((((((keeps_new hm0).put cp0).new hm1).put cp1).put cp1).new hm2).put cp2) ⟨dx, m0, m1, m2, [], cp2, upd_same, ?_, ?_, ?_, ?_, n01, .nil, LsAt.mk cset_same ?_⟩
        · rw [cset_ne n02, cset_ne n01, cset_same]
        · rw [upd_ne np0.symm, upd_ne n02, upd_ne np0.symm, upd_ne np0.symm, upd_ne n01, upd_ne np0.symm, upd_same]
          exact congrArg (fun z => some (HO.lst z)) List.map_replicate.symm
        · rw [cset_ne n12, cset_same]
        · rw [upd_ne np1.symm, upd_ne n12, upd_ne np1.symm, upd_ne np1.symm, upd_same]
        · rw [upd_ne np2.symm, upd_same]
          rfl
def spNew (K : PySem.W.Frag) : Sp := fun vs H Q _ => ∃ (c : Col) (i : Nat) (n : Nat), vs = [.int n] ∧ n ≤ 5 ∧ i ≠ 0 ∧ ∀ c' H' p, Keeps None' c H c' H' → OwnAt K c' i H' p (newDk n) → Q (.ref p) H'
theorem ok_new (F : FnP K "_law_new_disk" s__law_new_disk f fd) (m : mg "_law_new_disk" = some (.ref f)) (b : Binds K fd ["many"] []) (T : Blt mg) (G__law_page : DefOk P w K mg base CX0 1 "_law_page" ["text"] spPage) :
    DefOk P w K mg base CX0 2 "_law_new_disk" ["many"] (spNew K) := by
  refine mk_def F m b sc__law_new_disk (fun vs H Q E h => ?_) (fun cdv A outer s H vs Q E hr h => ?_)
  · obtain ⟨c, i, n, rfl, _⟩ := h
    rfl
  · obtain ⟨c, i, n, rfl, hn, hi, k⟩ := h
    refine' ⟨_, PSs.nox ?der, ?rd⟩
    case der => exact
        (pss_one (ps_ret (pe_disp (pps_cons pe_str (pe_lc (own := [("k", 1)]) rfl sc__law_new_disk.nd (pi_range1 (by rfl) T.range (pa_cons (pv 0) pa_nil)) (blkOk_by (own := [("k", 1)]) (N := ["many", "k"]) (sc := (defScope s__law_new_disk)) (by decide +kernel)) (fun _ _ _ _ _ => (pg_name (i := 1) sc__law_new_disk.nd rfl (by first | exact Or.inl rfl | exact Or.inr rfl))) (fun _ _ _ _ _ => pts_nil) (fun _ _ _ _ _ => (pe_D G__law_page (hr.mono (by omega)) (pa_cons pe_str pa_nil)))) (pps_cons pe_str (pe_lst pa_nil) (pps_cons pe_str (pe_un un_neg pe_int) (pps_cons pe_str (pe_lst pa_nil) pps_nil)))) (by rfl) (by rfl) (fun z => by cases z) (by decide))))
    case rd =>
      intro m0 hm0
      walk_at "v"
      rw [Int.toNat_natCast]
      intro m1 hm1
      have n01 : m0 ≠ m1 := ne_of_none upd_same hm1
      refine lc_range (fun j Hx => Hx = upd (upd H m0 (.dK [])) m1 (.lst (List.replicate j (.str (pg ""))))) rfl ?_ ?_
      · rintro j Hx hj rfl
        have hlen : (List.replicate j (V.str (pg ""))).length < sizeLine := by
          rw [List.length_replicate]
          have := szL
          omega
        walk_at "v"
        rw [upd_upd, List.replicate_succ']
      · rintro Hx rfl
        walk_at "v"
        intro m2 hm2
        have n02 : m0 ≠ m2 := ne_of_none (hp1 n01) hm2
        have n12 : m1 ≠ m2 := ne_of_none upd_same hm2
        walk_at "v"
        intro m3 hm3
        have n03 : m0 ≠ m3 := ne_of_none (hp11 n01 n02) hm3
        have n13 : m1 ≠ m3 := ne_of_none (hp1 n12) hm3
        have n23 : m2 ≠ m3 := ne_of_none upd_same hm3
        walk_at "v"
        refine ⟨by rw [upd_ne n03, upd_ne n02, upd_ne n01, upd_same], [(Sum.inr "safe", .ref m1), (Sum.inr "rest", .ref m2), (Sum.inr "moves", .int (-1)), (Sum.inr "keeps", .ref m3)], rfl, Nat.le_of_ble_eq_true rfl, ?_⟩
        refine k (cset (cset (cset (cset c m0 i) m1 i) m2 i) m3 0) _ m0 ((((Keeps.refl.new hm0).new hm1).new hm2).new hm3 |>.own hm0) ⟨m1, m2, m3, [], ?_, upd_same, ?_, ?_, ?_, ?_, n12, .nil, LsAt.mk cset_same ?_⟩
        · rw [cset_ne n03, cset_ne n02, cset_ne n01, cset_same]
        · rw [cset_ne n13, cset_ne n12, cset_same]
        · rw [upd_ne n01.symm, upd_ne n13, upd_ne n12, upd_same]
          exact congrArg (fun z => some (HO.lst z)) List.map_replicate.symm
        · rw [cset_ne n23, cset_same]
        · rw [upd_ne n02.symm, upd_ne n23, upd_same]
        · rw [upd_ne n03.symm, upd_same]
          rfl
end



open PySem L2


section
variable {P : Program} {w : World} {K : PySem.W.Frag} {mg : Str → Option Value} {base : Heap} {f CD CR CF fI : Addr} {fd : FuncData}
def spFallen (K : PySem.W.Frag) : Sp := fun vs H Q _ => ∃ (c : Col) (i g : Nat) (p kl : Addr) (s : Dk) (ks : List Int), vs = [.ref p, .ref kl] ∧ OwnAt K c i H p s ∧ Wf s ∧ i ≠ 0 ∧ g ≠ i ∧ LsAt K g c H kl (ks.map V.int) ∧ ks.length ≤ 100000 ∧
  ∀ c' H', Keeps (fun z => z = i) c H c' H' → OwnAt K c' i H' p (fallD s ks) → Q .non H'
theorem ok_fallen (F : FnP K "_law_fallen" s__law_fallen f fd) (m : mg "_law_fallen" = some (.ref f)) (b : Binds K fd ["own", "keeps"] []) (T : Blt mg) : DefOk P w K mg base CX0 1 "_law_fallen" ["own", "keeps"] (spFallen K) := by
  refine mk_def F m b sc__law_fallen (fun vs H Q E h => ?_) (fun cdv A outer s H vs Q E hr h => ?_)
  · obtain ⟨c, i, g, p, kl, s, ks, rfl, _⟩ := h
    rfl
  · obtain ⟨c, i, g, p, kl, s, ks, rfl, hD, hW, hi, hg, hks, hkl, k⟩ := h
    obtain ⟨lf, lr, lk, rows, h1, h2, h3, h4, h5, h6, h7, h8, h9⟩ := hD.ex
    refine' ⟨_, PSs.nox ?der, ?rd⟩
    case der => exact
        (pss_cons (ps_for PassesOwn.never rfl (pi_range1 (by rfl) T.range (pa_cons (pe_callB (call_min2 rfl) (by rfl) T.min (by decide +kernel) (pa_cons (pe_callB (call_len_seq' (K := K)) (by rfl) T.len (by decide +kernel) (pa_cons (pv 1) pa_nil)) (pa_cons (pe_callB (call_len_seq' (K := K)) (by rfl) T.len (by decide +kernel) (pa_cons (pe_dget (hu_of hr) (pv 0) pe_str (fun _ _ => rfl)) pa_nil)) pa_nil))) pa_nil)) (pg_name (i := 2) sc__law_fallen.nd rfl (by first | exact Or.inl rfl | exact Or.inr rfl))
          (pss_cons (ps_asg (pe_ix (ix_list' (K := K)) (pe_dget (hu_of hr) (pv 0) pe_str (fun _ _ => rfl)) (pv 2) (fun _ _ => rfl)) (pg_tup' (K := K) (n := 2) (by rfl) (pgs_cons (pg_name (i := 3) sc__law_fallen.nd rfl (by first | exact Or.inl rfl | exact Or.inr rfl)) (pgs_cons (pg_name (i := 4) sc__law_fallen.nd rfl (by first | exact Or.inl rfl | exact Or.inr rfl)) pgs_nil))))
         (pss_one (ps_asg (pe_op op_add_str (pe_slice sl_str (pv 4) po_none (po_some (pe_ix (ix_list' (K := K)) (pv 1) (pv 2) (fun _ _ => rfl)))) (pe_slice sl_str (pe_ix (ix_list' (K := K)) (pe_dget (hu_of hr) (pv 0) pe_str (fun _ _ => rfl)) (pv 3) (fun _ _ => rfl)) (po_some (pe_ix (ix_list' (K := K)) (pv 1) (pv 2) (fun _ _ => rfl))) po_none)) (pg_sub (pe_dget (hu_of hr) (pv 0) pe_str (fun _ _ => rfl)) (pv 3) set_list)))))
         (pss_cons (ps_dput (hu_of hr) (pv 0) pe_str (pe_lst pa_nil) rfl)
         (pss_cons (ps_dput (hu_of hr) (pv 0) pe_str (pe_un un_neg pe_int) rfl)
         (pss_one (ps_dput (hu_of hr) (pv 0) pe_str (pe_lst pa_nil) rfl)))))
    case rd =>
      have npf : p ≠ lf := ne_ho h2 h4 (by nofun)
      have npr : p ≠ lr := ne_ho h2 h6 (by nofun)
      walk_at "v"
      have hm : (if (rows.length : Int) < ((ks.map V.int).length : Int) then (rows.length : Int) else ((ks.map V.int).length : Int)) = ((min ks.length s.fresh.length : Nat) : Int) := by
        rw [rows_len h8, List.length_map]
        split <;> omega
      rw [hm]
      refine ⟨by omega, ?_⟩
      rw [Int.toNat_natCast]
      refine for_range (fun j σ Hx => (∃ x y z, σ = [some (.ref p), some (.ref kl), x, y, z]) ∧ Hx = upd H lf (.lst ((fallF s.firm (s.fresh.take j) (ks.take j)).map V.str))) ?_ ?_ ?_
      · refine ⟨⟨none, none, none, rfl⟩, ?_⟩
        rw [List.take_zero, fallF_nil, upd_id h4]
      · rintro j σ Hx hj ⟨⟨x, y, z, rfl⟩, rfl⟩
        have hj1 : j < rows.length := by rw [rows_len h8]; omega
        have hj2 : j < ks.length := by omega
        obtain ⟨q, ta, q1, q2, q3⟩ := rows_get h8 (List.getElem?_eq_getElem hj1)
        have hq := hW.fr q (List.mem_of_getElem? q1)
        obtain ⟨n, hn⟩ : ∃ n, ks[j]? = some n := ⟨_, List.getElem?_eq_getElem hj2⟩
        have e1 : atI rows (0 + (j : Int)) = some (.ref ta) := at_i (by omega) (by rw [show (0 + (j : Int)).toNat = j by omega, List.getElem?_eq_getElem hj1, q2])
        have e2 : atI (ks.map V.int) (0 + (j : Int)) = some (.int n) := at_i (by omega) (by rw [show (0 + (j : Int)).toNat = j by omega, List.getElem?_map, hn]; rfl)
        have hstep := fallF_take s.fresh ks s.firm j q1 hn
        obtain ⟨w1, w2⟩ := fallF_ok (s.fresh.take j) (ks.take j) s.firm hW.fm (fun u hu => hW.fr u (List.mem_of_mem_take hu))
        generalize hF : fallF s.firm (s.fresh.take j) (ks.take j) = F at hstep w1 w2
        have kp : Keeps (fun z => z = i) c H c (upd H lf (.lst (F.map V.str))) := keeps_put h3
        have sr : SqL K (upd H lf (.lst (F.map V.str))) lr rows := SqL.of (hp2 h7.symm h6)
        have sk : SqL K (upd H lf (.lst (F.map V.str))) kl (ks.map V.int) := (hks.keep kp hg).sq
        have st := (q3.keep kp (fun z => hi z.symm)).sq
        have e3 : atI (F.map V.str) q.1 = some (.str (F.getD q.1.toNat Str.empty)) := firm_at hq.1 (by rw [w1]; exact hq.2.1)
        have l1 : q.2.length ≤ sizeLine := by rw [hq.2.2]; decide
        have l2' : (F.getD q.1.toNat Str.empty).length = 384 := getD_len w2 (by rw [w1]; omega)
        have l2 : (F.getD q.1.toNat Str.empty).length ≤ sizeLine := by rw [l2']; decide
        have l3 : (cutS q.2 none (some n)).length + (cutS (F.getD q.1.toNat Str.empty) (some n) none).length ≤ sizeLine := by
          have := spl_len (n := n) hq.2.2 l2'
          rw [spl, app_len] at this
          rw [this]
          decide
        have e4 : ixN (F.map V.str).length q.1 = some q.1.toNat := ixN_i hq.1 (by rw [List.length_map, w1]; exact hq.2.1)
        walk_at "v"
        refine ⟨⟨_, _, _, rfl⟩, ?_⟩
        rw [upd_upd, hstep]
        exact congrArg (fun z => upd H lf (HO.lst z)) set_map
      · rintro σ Hx ⟨⟨x, y, z, rfl⟩, rfl⟩
        rw [fallF_all _ _ _ _ rfl]
        generalize hF : fallF s.firm s.fresh ks = F
        walk_at "v"
        intro m1 hm1
        have np1 : p ≠ m1 := ne_of_none (hp2 npf h2) hm1
        have nf1 : lf ≠ m1 := ne_of_none upd_same hm1
        have hm1' : H m1 = none := by rw [upd_ne nf1.symm] at hm1; exact hm1
        walk_at "v"
        intro m2 hm2
        have np2 : p ≠ m2 := ne_of_none upd_same hm2
        have n12 : m1 ≠ m2 := ne_of_none (hp11 np1.symm np1.symm) hm2
        walk_at "v"
        have nf2 : lf ≠ m2 := ne_of_none (by rw [upd_ne npf.symm, upd_ne npf.symm, upd_ne nf1, upd_same]) hm2
        have cp : cset c m1 i p = i := by rw [cset_ne np1]; exact h1
        have cp2 : cset (cset c m1 i) m2 0 p = i := by rw [cset_ne np2]; exact cp
        refine k (cset (cset c m1 i) m2 0) _ (((((((keeps_put h3).new hm1).put cp).put cp).new hm2)).put cp2) ⟨lf, m1, m2, [], cp2, upd_same, ?_, ?_, ?_, ?_, nf1, .nil, LsAt.mk cset_same ?_⟩
        · rw [cset_ne nf2, cset_ne nf1]
          exact h3
        · rw [upd_ne npf.symm, upd_ne nf2, upd_ne npf.symm, upd_ne npf.symm, upd_ne nf1, upd_same, ← hF]
          rfl
        · rw [cset_ne n12, cset_same]
        · rw [upd_ne np1.symm, upd_ne n12, upd_ne np1.symm, upd_ne np1.symm, upd_same]
        · rw [upd_ne np2.symm, upd_same]
          rfl
end



open PySem L2


/-- what a call's tuple holds -/
def CallAt (K : PySem.W.Frag) (k : Nat) (c : Col) (H : Hp) (q : Addr) : Call → Prop
  | .write a t => TpAt K k c H q [.str "write", .int a, .str t]
  | .sync => TpAt K k c H q [.str "sync"]
  | .read a => TpAt K k c H q [.str "read", .int a]
  | .safe a => TpAt K k c H q [.str "safe", .int a]
  | .fall ks => ∃ l, TpAt K k c H q [.str "fall", .ref l] ∧ LsAt K k c H l (ks.map V.int)
  | .order n ks => ∃ l, TpAt K k c H q [.str "order", .int n, .ref l] ∧ LsAt K k c H l (ks.map V.int)
  | .spoil a n sg => TpAt K k c H q [.str "spoil", .int a, .int n, .str sg]
def Call.word : Call → Str
  | .write _ _ => "write"
  | .sync => "sync"
  | .read _ => "read"
  | .safe _ => "safe"
  | .fall _ => "fall"
  | .order _ _ => "order"
  | .spoil _ _ _ => "spoil"
theorem is_int {K : PySem.W.Frag} {k : Nat} {c : Col} {H : Hp} {a : Int} {v : V} (h : Is K k c H (.int a) v) : v = .int a := by cases h; rfl
theorem is_str {K : PySem.W.Frag} {k : Nat} {c : Col} {H : Hp} {a : Str} {v : V} (h : Is K k c H (.str a) v) : v = .str a := by cases h; rfl
theorem is_tup {K : PySem.W.Frag} {k : Nat} {c : Col} {H : Hp} {ds : List D} {q : Addr} (h : Is K k c H (.tup ds) (.ref q)) : ∃ vs, TpAt K k c H q vs ∧ Iss K k c H ds vs := by
  cases h with
  | tup ht hr => exact ⟨_, ht, hr⟩
theorem is_ints {K : PySem.W.Frag} {k : Nat} {c : Col} {H : Hp} {ks : List Int} {v : V} (h : Is K k c H (.lst (ks.map D.int)) v) : ∃ l, v = .ref l ∧ LsAt K k c H l (ks.map V.int) := by
  cases h with
  | lst ht hr => exact ⟨_, rfl, by rw [Iss.ints_eq hr] at ht; exact ht⟩
theorem iss_cons {K : PySem.W.Frag} {k : Nat} {c : Col} {H : Hp} {d : D} {ds : List D} {vs : List V} (h : Iss K k c H (d :: ds) vs) : ∃ v r, vs = v :: r ∧ Is K k c H d v ∧ Iss K k c H ds r := by
  cases h with
  | cons a b => exact ⟨_, _, rfl, a, b⟩
theorem iss_nil {K : PySem.W.Frag} {k : Nat} {c : Col} {H : Hp} {vs : List V} (h : Iss K k c H [] vs) : vs = [] := by cases h; rfl
theorem call_get {K : PySem.W.Frag} {k : Nat} {c : Col} {H : Hp} {q : Addr} : ∀ {call : Call}, Is K k c H call.d (.ref q) → CallAt K k c H q call
  | .write a t, h => by
    obtain ⟨vs, ht, hr⟩ := is_tup h
    obtain ⟨v0, r, rfl, e0, hr⟩ := iss_cons hr
    obtain ⟨v1, r, rfl, e1, hr⟩ := iss_cons hr
    obtain ⟨v2, r, rfl, e2, hr⟩ := iss_cons hr
    rw [is_str e0, is_int e1, is_str e2, iss_nil hr] at ht
    exact ht
  | .sync, h => by
    obtain ⟨vs, ht, hr⟩ := is_tup h
    obtain ⟨v0, r, rfl, e0, hr⟩ := iss_cons hr
    rw [is_str e0, iss_nil hr] at ht
    exact ht
  | .read a, h => by
    obtain ⟨vs, ht, hr⟩ := is_tup h
    obtain ⟨v0, r, rfl, e0, hr⟩ := iss_cons hr
    obtain ⟨v1, r, rfl, e1, hr⟩ := iss_cons hr
    rw [is_str e0, is_int e1, iss_nil hr] at ht
    exact ht
  | .safe a, h => by
    obtain ⟨vs, ht, hr⟩ := is_tup h
    obtain ⟨v0, r, rfl, e0, hr⟩ := iss_cons hr
    obtain ⟨v1, r, rfl, e1, hr⟩ := iss_cons hr
    rw [is_str e0, is_int e1, iss_nil hr] at ht
    exact ht
  | .fall ks, h => by
    obtain ⟨vs, ht, hr⟩ := is_tup h
    obtain ⟨v0, r, rfl, e0, hr⟩ := iss_cons hr
    obtain ⟨v1, r, rfl, e1, hr⟩ := iss_cons hr
    obtain ⟨l, e1, hl⟩ := is_ints e1
    rw [is_str e0, e1, iss_nil hr] at ht
    exact ⟨l, ht, hl⟩
  | .order n ks, h => by
    obtain ⟨vs, ht, hr⟩ := is_tup h
    obtain ⟨v0, r, rfl, e0, hr⟩ := iss_cons hr
    obtain ⟨v1, r, rfl, e1, hr⟩ := iss_cons hr
    obtain ⟨v2, r, rfl, e2, hr⟩ := iss_cons hr
    obtain ⟨l, e2, hl⟩ := is_ints e2
    rw [is_str e0, is_int e1, e2, iss_nil hr] at ht
    exact ⟨l, ht, hl⟩
  | .spoil a n sg, h => by
    obtain ⟨vs, ht, hr⟩ := is_tup h
    obtain ⟨v0, r, rfl, e0, hr⟩ := iss_cons hr
    obtain ⟨v1, r, rfl, e1, hr⟩ := iss_cons hr
    obtain ⟨v2, r, rfl, e2, hr⟩ := iss_cons hr
    obtain ⟨v3, r, rfl, e3, hr⟩ := iss_cons hr
    rw [is_str e0, is_int e1, is_int e2, is_str e3, iss_nil hr] at ht
    exact ht
theorem call_word {K : PySem.W.Frag} {k : Nat} {c : Col} {H : Hp} {q : Addr} {call : Call} (h : Is K k c H call.d (.ref q)) : ∃ vs, TpAt K k c H q (.str call.word :: vs) := by
  have g := call_get h
  cases call with
  | fall ks =>
    obtain ⟨l, g, _⟩ := g
    exact ⟨_, g⟩
  | order n ks =>
    obtain ⟨l, g, _⟩ := g
    exact ⟨_, g⟩
  | _ => exact ⟨_, g⟩
def picks (rows : List (Int × Str)) (a : Int) (j : Nat) : List Str := ((rows.take j).filter fun q => decide (q.1 = a)).map (·.2)
theorem picks_succ {rows : List (Int × Str)} {j : Nat} {q : Int × Str} (a : Int) (e : rows[j]? = some q) : picks rows a (j + 1) = if q.1 = a then picks rows a j ++ [q.2] else picks rows a j := by
  unfold picks
  rw [List.take_add_one, e]
  by_cases h : q.1 = a <;> simp [h]
theorem picks_len (rows : List (Int × Str)) (a : Int) (j : Nat) : (picks rows a j).length ≤ rows.length := by
  unfold picks
  rw [List.length_map]
  refine Nat.le_trans (List.length_filter_le _ _) ?_
  rw [List.length_take]
  omega
theorem picks_read (s : Dk) (a : Int) : (∀ h : picks s.fresh a s.fresh.length ≠ [], (picks s.fresh a s.fresh.length).getLast h = readD s a) ∧ (picks s.fresh a s.fresh.length = [] → readD s a = s.firm.getD a.toNat Str.empty) := by
  have e : readD s a = ((picks s.fresh a s.fresh.length).getLast?).getD (s.firm.getD a.toNat Str.empty) := by
    unfold readD picks
    rw [List.take_length]
    exact readD_filter s.fresh a _
  rw [e]
  refine ⟨fun h => ?_, fun h => ?_⟩
  · rw [List.getLast?_eq_some_getLast h]
    rfl
  · rw [h]
    rfl
theorem atI_last {F : List Str} (h : F ≠ []) : atI (F.map V.str) (-1) = some (.str (F.getLast h)) := by
  have hl : 0 < F.length := List.length_pos_iff.mpr h
  unfold atI ixN
  rw [if_neg (by decide), List.length_map, if_pos (by omega)]
  show (F.map V.str)[(-1 + (F.length : Int)).toNat]? = _
  rw [show (-1 + (F.length : Int)).toNat = F.length - 1 by omega, List.getElem?_map, List.getLast_eq_getElem, List.getElem?_eq_getElem (by omega)]
  rfl
theorem own_tup {K : PySem.W.Frag} {c c2 : Col} {i : Nat} {H H2 : Hp} {p d : Addr} {s : Dk} {ds : List D} {vs : List V} (kp : Keeps (fun z => z = i) c H c2 H2) (hD : OwnAt K c2 i H2 p s) (hd : H2 d = none) (hr : Iss K 0 c2 H2 ds vs) :
    Keeps (fun z => z = i) c H (cset c2 d 0) (upd H2 d (.tup vs)) ∧ OwnAt K (cset c2 d 0) i (upd H2 d (.tup vs)) p s ∧ Is K 0 (cset c2 d 0) (upd H2 d (.tup vs)) (.tup ds) (.ref d) :=
  ⟨kp.new hd, hD.keep (I := None') (keeps_new hd) (fun z => z) (fun z => z), .tup (TpAt.mk cset_same upd_same) (hr.new hd)⟩
theorem in_false {s : Dk} {a : Int} (h : ¬ (0 ≤ a ∧ a < (s.firm.length : Int))) : inB s a = false := decide_eq_false h
theorem in_true {s : Dk} {a : Int} (h0 : 0 ≤ a) (h : a < (s.firm.length : Int)) : inB s a = true := decide_eq_true ⟨h0, h⟩
section
variable {P : Program} {w : World} {K : PySem.W.Frag} {mg : Str → Option Value} {base : Heap} {f CD CR CF fI : Addr} {fd : FuncData}
def spMovedO (K : PySem.W.Frag) : Sp := fun vs H Q _ => ∃ (c : Col) (i : Nat) (p : Addr) (s : Dk), vs = [.ref p] ∧ OwnAt K c i H p s ∧ Wf s ∧ i ≠ 0 ∧ ∀ c' H', Keeps (fun z => z = i) c H c' H' → OwnAt K c' i H' p (movedD s) → Q (.bl (movedB s)) H'
theorem ok_movedO (F : FnP K "_law_moved" s__law_moved f fd) (m : mg "_law_moved" = some (.ref f)) (b : Binds K fd ["own"] []) (T : Blt mg) (G__law_fallen : DefOk P w K mg base CX0 1 "_law_fallen" ["own", "keeps"] (spFallen K)) :
    DefOk P w K mg base CX0 2 "_law_moved" ["own"] (spMovedO K) := by
  refine mk_def F m b sc__law_moved (fun vs H Q E h => ?_) (fun cdv A outer s H vs Q E hr h => ?_)
  · obtain ⟨c, i, p, s, rfl, _⟩ := h
    rfl
  · obtain ⟨c, i, p, s, rfl, hD, hW, hi, k⟩ := h
    obtain ⟨lf, lr, lk, rows, h1, h2, h3, h4, h5, h6, h7, h8, h9⟩ := hD.ex
    refine' ⟨_, PSs.nox ?der, ?rd⟩
    case der => exact
        (pss_cons (ps_if (pt_cmpR op_eq (pe_dget (hu_of hr) (pv 0) pe_str (fun _ _ => rfl)) pe_int (nomark _))
          (pss_cons (ps_expr (pe_D G__law_fallen (hr.mono (by omega)) (pa_cons (pv 0) (pa_cons (pe_dget (hu_of hr) (pv 0) pe_str (fun _ _ => rfl)) pa_nil))))
         (pss_one (ps_ret pe_bl)))
          pss_nil)
         (pss_cons (ps_dput (hu_of hr) (pv 0) pe_str (pe_callB (call_max2 rfl) (by rfl) T.max (by decide +kernel) (pa_cons (pe_op op_sub (pe_dget (hu_of hr) (pv 0) pe_str (fun _ _ => rfl)) pe_int) (pa_cons (pe_un un_neg pe_int) pa_nil))) rfl)
         (pss_one (ps_ret pe_bl))))
    case rd =>
      walk_at "v"
      refine ite2 (fun c1 => ?_) (fun c1 => ?_)
      · have e0 := dint c1
        have hb : movedB s = true := decide_eq_true e0
        have hd : movedD s = fallD s s.keeps := by unfold movedD; rw [if_pos e0]
        rw [hb, hd] at k
        walk_at "v"
        refine ⟨c, i, 0, p, lk, s, s.keeps, rfl, hD, hW, hi, hi.symm, h9, hW.kl, ?_⟩
        intro c' H' kp hD'
        exact k c' H' kp hD'
      · have e0 := dintn c1
        have hb : movedB s = false := decide_eq_false e0
        have hd : movedD s = { s with moves := if (-1 : Int) > s.moves - 1 then -1 else s.moves - 1 } := by unfold movedD; rw [if_neg e0]
        rw [hb, hd] at k
        have nfp := ne_ho h4 h2 (by nofun)
        have nrp := ne_ho h6 h2 (by nofun)
        have kp := keeps_put (I := fun z => z = i) (H := H) (o := .dK [(Sum.inr "safe", .ref lf), (Sum.inr "rest", .ref lr), (Sum.inr "moves", .int (if (-1 : Int) > s.moves - 1 then -1 else s.moves - 1)), (Sum.inr "keeps", .ref lk)]) h1
        walk_at "v"
        refine k c _ kp ⟨lf, lr, lk, rows, h1, upd_same, h3, hp2 nfp h4, h5, hp2 nrp h6, h7, h8.keep kp (fun z => hi z.symm), h9.keep kp (fun z => hi z.symm)⟩
def spDue (K : PySem.W.Frag) : Sp := fun vs H Q _ => ∃ (c : Col) (i : Nat) (p q : Addr) (s : Dk) (call : Call), vs = [.ref p, .ref q] ∧ OwnAt K c i H p s ∧ Wf s ∧ i ≠ 0 ∧ s.fresh.length ≤ 100000 ∧ call.ok ∧ Is K 0 c H call.d (.ref q) ∧
  ∀ c' H' r, Keeps (fun z => z = i) c H c' H' → OwnAt K c' i H' p (tellC s call).2 → Is K 0 c' H' (tellC s call).1 r → Q r H'
theorem ok_due (F : FnP K "_law_disk_due" s__law_disk_due f fd) (m : mg "_law_disk_due" = some (.ref f)) (b : Binds K fd ["own", "call"] []) (T : Blt mg) (G__law_page : DefOk P w K mg base CX0 1 "_law_page" ["text"] spPage) (G__law_fallen : DefOk P w K mg base CX0 1 "_law_fallen" ["own", "keeps"] (spFallen K))
    (G__law_moved : DefOk P w K mg base CX0 2 "_law_moved" ["own"] (spMovedO K)) : DefOk P w K mg base CX0 3 "_law_disk_due" ["own", "call"] (spDue K) := by
  refine mk_def F m b sc__law_disk_due (fun vs H Q E h => ?_) (fun cdv A outer s H vs Q E hr h => ?_)
  · obtain ⟨c, i, p, q, s, call, rfl, _⟩ := h
    rfl
  · obtain ⟨c, i, p, q, s, call, rfl, hD, hW, hi, hfr, hok, hC, k⟩ := h
    obtain ⟨lf, lr, lk, rows, h1, h2, h3, h4, h5, h6, h7, h8, h9⟩ := hD.ex
    refine' ⟨_, PSs.nox ?der, ?rd⟩
    case der => exact
        (pss_cons (ps_set (i := 2) sc__law_disk_due.nd rfl (by first | exact Or.inl rfl | exact Or.inr rfl) (pe_ix (ix_tup' (K := K)) (pv 1) pe_int (fun _ _ => rfl)))
         (pss_cons (ps_if (pt_cmpR (op_in_seq' (K := K)) (pv 2) (pe_tup (pa_cons pe_str (pa_cons pe_str (pa_cons pe_str (pa_cons pe_str pa_nil))))) (by rfl))
          (pss_one (ps_if (PW.pt (pw_or (pt_not (pt_chain op_le op_lt pe_int (pe_ix (ix_tup' (K := K)) (pv 1) pe_int (fun _ _ => rfl)) (pe_callB (call_len_seq' (K := K)) (by rfl) T.len (by decide +kernel) (pa_cons (pe_dget (hu_of hr) (pv 0) pe_str (fun _ _ => rfl)) pa_nil)))) (pw_or1 (PW.pt (pw_and (pt_cmpR op_eq (pv 2) pe_str (nomark _)) (pw_and1 (pt_cmpR op_gt (pe_callB call_len_str' (by rfl) T.len (by decide +kernel) (pa_cons (pe_ix (ix_tup' (K := K)) (pv 1) pe_int (fun _ _ => rfl)) pa_nil)) pe_int (nomark _))))))))
          (pss_one (ps_ret (pe_tup (pa_cons pe_str (pa_cons (pe_ix (ix_tup' (K := K)) (pv 1) pe_int (fun _ _ => rfl)) pa_nil)))))
          pss_nil))
          pss_nil)
         (pss_cons (ps_if (pt_cmpR op_eq (pv 2) pe_str (nomark _))
          (pss_cons (ps_setLc (i := 3) (own := [("at", 4), ("text", 5)]) rfl sc__law_disk_due.nd rfl rfl (sw_true rfl rfl rfl (by decide +kernel)) (pi_list' (K := K) (pe_dget (hu_of hr) (pv 0) pe_str (fun _ _ => rfl))) (blkOk_by (own := [("at", 4), ("text", 5)]) (N := ["own", "call", "word", "texts", "at", "text", "page"]) (sc := (defScope s__law_disk_due)) (by decide +kernel)) (fun _ _ _ _ _ => (pg_tup' (K := K) (n := 2) (by rfl) (pgs_cons (pg_name (i := 4) sc__law_disk_due.nd rfl (by first | exact Or.inl rfl | exact Or.inr rfl)) (pgs_cons (pg_name (i := 5) sc__law_disk_due.nd rfl (by first | exact Or.inl rfl | exact Or.inr rfl)) pgs_nil)))) (fun _ _ _ _ _ => (pts_one (pt_cmpR op_eq (pv 4) (pe_ix (ix_tup' (K := K)) (pv 1) pe_int (fun _ _ => rfl)) (nomark _)))) (fun _ _ _ _ _ => (pv 5)))
         (pss_one (ps_ret (pe_tup (pa_cons pe_str (pa_cons (pe_ifExp (pt_cmpR op_gt (pe_callB (call_len_seq' (K := K)) (by rfl) T.len (by decide +kernel) (pa_cons (pv 3) pa_nil)) pe_int (nomark _)) (pe_ix (ix_list' (K := K)) (pv 3) (pe_un un_neg pe_int) (fun _ _ => rfl)) (pe_ix (ix_list' (K := K)) (pe_dget (hu_of hr) (pv 0) pe_str (fun _ _ => rfl)) (pe_ix (ix_tup' (K := K)) (pv 1) pe_int (fun _ _ => rfl)) (fun _ _ => rfl))) pa_nil))))))
          pss_nil)
         (pss_cons (ps_if (pt_cmpR op_eq (pv 2) pe_str (nomark _))
          (pss_one (ps_ret (pe_tup (pa_cons pe_str (pa_cons (pe_ix (ix_list' (K := K)) (pe_dget (hu_of hr) (pv 0) pe_str (fun _ _ => rfl)) (pe_ix (ix_tup' (K := K)) (pv 1) pe_int (fun _ _ => rfl)) (fun _ _ => rfl)) pa_nil)))))
          pss_nil)
         (pss_cons (ps_if (pt_cmpR op_eq (pv 2) pe_str (nomark _))
          (pss_cons (ps_expr (pe_bm' (K := K) PySem.F.plainAttrs_list PySem.F.slot_list_append PySem.F.type_list_append mt_append (pe_dget (hu_of hr) (pv 0) pe_str (fun _ _ => rfl)) (pa_cons (pe_tup (pa_cons (pe_ix (ix_tup' (K := K)) (pv 1) pe_int (fun _ _ => rfl)) (pa_cons (pe_D G__law_page (hr.mono (by omega)) (pa_cons (pe_ix (ix_tup' (K := K)) (pv 1) pe_int (fun _ _ => rfl)) pa_nil)) pa_nil))) pa_nil)))
         (pss_one (ps_ret (pe_ifExp (pt_val (pe_D G__law_moved (hr.mono (by omega)) (pa_cons (pv 0) pa_nil))) (pe_tup (pa_cons pe_str (pa_cons pe_non pa_nil))) (pe_tup (pa_cons pe_str (pa_cons pe_non pa_nil)))))))
          pss_nil)
         (pss_cons (ps_if (pt_cmpR op_eq (pv 2) pe_str (nomark _))
          (pss_cons (ps_if (pt_val (pe_D G__law_moved (hr.mono (by omega)) (pa_cons (pv 0) pa_nil)))
          (pss_one (ps_ret (pe_tup (pa_cons pe_str (pa_cons pe_non pa_nil)))))
          pss_nil)
         (pss_cons (ps_for PassesOwn.never rfl (pi_list' (K := K) (pe_dget (hu_of hr) (pv 0) pe_str (fun _ _ => rfl))) (pg_tup' (K := K) (n := 2) (by rfl) (pgs_cons (pg_name (i := 4) sc__law_disk_due.nd rfl (by first | exact Or.inl rfl | exact Or.inr rfl)) (pgs_cons (pg_name (i := 5) sc__law_disk_due.nd rfl (by first | exact Or.inl rfl | exact Or.inr rfl)) pgs_nil)))
          (pss_one (ps_asg (pv 5) (pg_sub (pe_dget (hu_of hr) (pv 0) pe_str (fun _ _ => rfl)) (pv 4) set_list))))
         (pss_one (ps_dput (hu_of hr) (pv 0) pe_str (pe_lst pa_nil) rfl))))
          pss_nil)
         (pss_cons (ps_if (pt_cmpR op_eq (pv 2) pe_str (nomark _))
          (pss_one (ps_expr (pe_D G__law_fallen (hr.mono (by omega)) (pa_cons (pv 0) (pa_cons (pe_ix (ix_tup' (K := K)) (pv 1) pe_int (fun _ _ => rfl)) pa_nil)))))
          pss_nil)
         (pss_cons (ps_if (pt_cmpR op_eq (pv 2) pe_str (nomark _))
          (pss_one (ps_asg (pe_tup (pa_cons (pe_ix (ix_tup' (K := K)) (pv 1) pe_int (fun _ _ => rfl)) (pa_cons (pe_ix (ix_tup' (K := K)) (pv 1) pe_int (fun _ _ => rfl)) pa_nil))) (pg_tup' (K := K) (n := 2) (by rfl) (pgs_cons (pg_sub (pv 0) pe_str (set_dict (hu_of hr))) (pgs_cons (pg_sub (pv 0) pe_str (set_dict (hu_of hr))) pgs_nil)))))
          pss_nil)
         (pss_cons (ps_if (pt_cmpR op_eq (pv 2) pe_str (nomark _))
          (pss_cons (ps_set (i := 6) sc__law_disk_due.nd rfl (by first | exact Or.inl rfl | exact Or.inr rfl) (pe_ix (ix_list' (K := K)) (pe_dget (hu_of hr) (pv 0) pe_str (fun _ _ => rfl)) (pe_ix (ix_tup' (K := K)) (pv 1) pe_int (fun _ _ => rfl)) (fun _ _ => rfl)))
         (pss_one (ps_asg (pe_op op_add_str (pe_op op_add_str (pe_slice sl_str (pv 6) po_none (po_some (pe_ix (ix_tup' (K := K)) (pv 1) pe_int (fun _ _ => rfl)))) (pe_ix (ix_tup' (K := K)) (pv 1) pe_int (fun _ _ => rfl))) (pe_slice sl_str (pv 6) (po_some (pe_op op_add (pe_ix (ix_tup' (K := K)) (pv 1) pe_int (fun _ _ => rfl)) pe_int)) po_none)) (pg_sub (pe_dget (hu_of hr) (pv 0) pe_str (fun _ _ => rfl)) (pe_ix (ix_tup' (K := K)) (pv 1) pe_int (fun _ _ => rfl)) set_list))))
          pss_nil)
         (pss_one (ps_ret (pe_tup (pa_cons pe_str (pa_cons pe_non pa_nil))))))))))))))
    case rd =>
      obtain ⟨vs0, ht0⟩ := call_word hC
      have hat0 : atI (V.str call.word :: vs0) 0 = some (.str call.word) := at_i (by decide) rfl
      walk_at "v"
      intro pj hpj
      have kj : Keeps None' c H (cset c pj 0) (upd H pj (.tup [.str "write", .str "read", .str "safe", .str "spoil"])) := keeps_new hpj
      have hD1 := hD.keep kj (fun z => z) (fun z => z)
      have hC1 := call_get (hC.keep kj (fun z => z))
      have k1 : ∀ c' H' r, Keeps (fun z => z = i) (cset c pj 0) (upd H pj (.tup [.str "write", .str "read", .str "safe", .str "spoil"])) c' H' → OwnAt K c' i H' p (tellC s call).2 → Is K 0 c' H' (tellC s call).1 r → Q r H' :=
        fun c' H' r kp => k c' H' r (kj.any.trans kp)
      walk_at "v"
      clear m b T G__law_page G__law_fallen G__law_moved k hC hD kj h1 h2 h3 h4 h5 h6 h8 h9 ht0 hat0
      generalize cset c pj 0 = c1 at hD1 hC1 k1
      generalize upd H pj (.tup [.str "write", .str "read", .str "safe", .str "spoil"]) = H1 at hD1 hC1 k1 ⊢
      obtain ⟨lf, lr, lk, rows, h1, h2, h3, h4, h5, h6, h7, h8, h9⟩ := hD1.ex
      cases call with
      | write a t =>
        dsimp only [Call.word]
        have hC2 : TpAt K 0 c1 H1 q [.str "write", .int a, .str t] := hC1
        have bad : inB s a = false → ∀ d, H1 d = none → Q (.ref d) (upd H1 d (.tup [.str "record", .int a])) := fun hb d hd => by
          obtain ⟨e1, e2, e3⟩ := own_tup (Keeps.refl (I := fun z => z = i) (c := c1)) hD1 hd (ds := [.str "record", .int a]) (.cons (.str _) (.cons (.int _) .nil))
          refine k1 _ _ _ e1 ?_ ?_
          · simp only [tellC, hb, Bool.false_and]
            exact e2
          · simp only [tellC, hb, Bool.false_and]
            exact e3
        walk_at "v"
        refine ite2 (fun d1 => ?_) (fun d1 => ?_)
        · walk_at "v"
          refine ite2 (fun d2 => ?_) (fun d2 => ?_)
          · walk_at "v"
            exact bad (in_false fun z => by have e := z.2; simp at d2; omega)
          · have b0 := of_decide_eq_true d1
            have b1 : a < (s.firm.length : Int) := by simpa using d2
            have hb := in_true b0 b1
            have hat := firm_at b0 b1
            have hz : t.length ≤ sizeLine := by
              have e1 : t.length ≤ 1000 := hok
              have := szL
              omega
            have hz2 : t.length ≤ 2000 := by
              have e1 : t.length ≤ 1000 := hok
              omega
            have badW : ¬ t.length ≤ 384 → ∀ d, H1 d = none → Q (.ref d) (upd H1 d (.tup [.str "record", .int a])) := fun hn d hd => by
              obtain ⟨e1, e2, e3⟩ := own_tup (Keeps.refl (I := fun z => z = i) (c := c1)) hD1 hd (ds := [.str "record", .int a]) (.cons (.str _) (.cons (.int _) .nil))
              refine k1 _ _ _ e1 ?_ ?_
              · simp only [tellC, decide_eq_false hn, Bool.and_false]
                exact e2
              · simp only [tellC, decide_eq_false hn, Bool.and_false]
                exact e3
            walk_at "v"
            refine ite2 (fun d3 => ?_) (fun d3 => ?_)
            · walk_at "v"
              exact badW (by simp at d3; omega)
            · have e0 : t.length ≤ 384 := by simp at d3; omega
              have hl := rows_len h8
              have hls : rows.length < sizeLine := by have := szL; omega
              walk_at "v"
              intro m1 hm1
              have nl1 : lr ≠ m1 := ne_of_none h6 hm1
              have np1 : p ≠ m1 := ne_of_none h2 hm1
              have npr : p ≠ lr := ne_ho h2 h6 (by nofun)
              have nf1 : lf ≠ m1 := ne_of_none h4 hm1
              walk_at "v"
              have cl : cset c1 m1 0 lr = i := by rw [cset_ne nl1]; exact h5
              have kp2 : Keeps (fun z => z = i) c1 H1 (cset c1 m1 0) (upd (upd H1 m1 (.tup [.int a, .str (pg t)])) lr (.lst (rows ++ [.ref m1]))) := (keeps_new hm1).put cl
              have hD2 : OwnAt K (cset c1 m1 0) i (upd (upd H1 m1 (.tup [.int a, .str (pg t)])) lr (.lst (rows ++ [.ref m1]))) p (pushD s a t) := by
                refine ⟨lf, lr, lk, rows ++ [.ref m1], by rw [cset_ne np1]; exact h1, hp3 np1 npr h2, by rw [cset_ne nf1]; exact h3, hp3 nf1 h7 h4, cl, upd_same, h7, ?_, h9.keep kp2 (fun z => hi z.symm)⟩
                show Iss K 0 _ _ (rowsD (s.fresh ++ [(a, pg t)])) _
                unfold rowsD
                rw [List.map_append]
                exact Iss.app (h8.keep kp2 (fun z => hi z.symm)) (Iss.one (.tup (TpAt.mk cset_same (hp1 nl1.symm)) (.cons (.int a) (.cons (.str _) .nil))))
              refine ⟨cset c1 m1 0, i, p, pushD s a t, rfl, hD2, push_wf hW b0 b1 e0, hi, ?_⟩
              have htl : tellC s (.write a t) = (if movedB (pushD s a t) then dFallen else dTold .non, movedD (pushD s a t)) := by
                simp only [tellC, hb, decide_eq_true e0, Bool.and_true, if_true]
              rw [htl] at k1
              intro c' H' kp hD'
              cases hm : movedB (pushD s a t) with
              | true =>
                walk_at "v"
                intro d hd
                obtain ⟨e1, e2, e3⟩ := own_tup (kp2.trans kp) hD' hd (ds := [.str "fallen", .non]) (.cons (.str _) (.cons .non .nil))
                refine k1 _ _ _ e1 e2 ?_
                rw [hm]
                exact e3
              | false =>
                walk_at "v"
                intro d hd
                obtain ⟨e1, e2, e3⟩ := own_tup (kp2.trans kp) hD' hd (ds := [.str "told", .non]) (.cons (.str _) (.cons .non .nil))
                refine k1 _ _ _ e1 e2 ?_
                rw [hm]
                exact e3
        · walk_at "v"
          exact bad (in_false fun z => d1 (decide_eq_true z.1))
      | sync =>
        dsimp only [Call.word]
        have hC2 : TpAt K 0 c1 H1 q [.str "sync"] := hC1
        walk_at "v"
        refine ⟨c1, i, p, s, rfl, hD1, hW, hi, ?_⟩
        intro c' H' kp hD'
        have htl : tellC s .sync = (if movedB s then (dFallen, movedD s) else (dTold .non, safeD (movedD s))) := rfl
        rw [htl] at k1
        cases hm : movedB s with
        | true =>
          rw [hm] at k1
          walk_at "v"
          intro d hd
          obtain ⟨e1, e2, e3⟩ := own_tup kp hD' hd (ds := [.str "fallen", .non]) (.cons (.str _) (.cons .non .nil))
          exact k1 _ _ _ e1 e2 e3
        | false =>
          rw [hm] at k1
          have hW' : Wf (movedD s) := moved_wf hW
          have k' : ∀ c'' H'' r, Keeps (fun z => z = i) c1 H1 c'' H'' → OwnAt K c'' i H'' p (safeD (movedD s)) → Is K 0 c'' H'' (dTold .non) r → Q r H'' := k1
          generalize movedD s = s1 at hD' hW' k'
          obtain ⟨lf', lr', lk', rows', g1, g2, g3, g4, g5, g6, g7, g8, g9⟩ := hD'.ex
          have npf : p ≠ lf' := ne_ho g2 g4 (by nofun)
          walk_at "v"
          refine for_list (xs := rows') (fun j σ Hx => (∃ x y, σ = [some (.ref p), some (.ref q), some (.str "sync"), none, x, y, none]) ∧ Hx = upd H' lf' (.lst ((syncF s1.firm (s1.fresh.take j)).map V.str))) ?_ (fun j σ Hx _ z => by rw [z.2]; exact .inl (.inl (hp2 g7.symm g6))) ?_ ?_
          · refine ⟨⟨none, none, rfl⟩, ?_⟩
            rw [List.take_zero, syncF, upd_id g4]
          · rintro j x σ Hx hx ⟨⟨x1, x2, rfl⟩, rfl⟩
            obtain ⟨q, ta, q1, rfl, q3⟩ := rows_get g8 hx
            have hq := hW'.fr q (List.mem_of_getElem? q1)
            have hstep := syncF_take s1.fresh s1.firm j q1
            obtain ⟨w1, w2⟩ := syncF_ok (s1.fresh.take j) s1.firm hW'.fm (fun u hu => hW'.fr u (List.mem_of_mem_take hu))
            generalize hF : syncF s1.firm (s1.fresh.take j) = F at hstep w1 w2
            have kp1 : Keeps (fun z => z = i) c' H' c' (upd H' lf' (.lst (F.map V.str))) := keeps_put g3
            have st := (q3.keep kp1 (fun z => hi z.symm)).sq
            have e4 : ixN (F.map V.str).length q.1 = some q.1.toNat := ixN_i hq.1 (by rw [List.length_map, w1]; exact hq.2.1)
            walk_at "v"
            refine ⟨⟨_, _, rfl⟩, ?_⟩
            rw [upd_upd, hstep]
            exact congrArg (fun z => upd H' lf' (HO.lst z)) set_map
          · rintro σ Hx ⟨⟨x1, x2, rfl⟩, rfl⟩
            rw [rows_len g8, List.take_length]
            generalize hF : syncF s1.firm s1.fresh = F
            walk_at "v"
            intro m1 hm1
            have np1 : p ≠ m1 := ne_of_none (hp2 npf g2) hm1
            have nf1 : lf' ≠ m1 := ne_of_none upd_same hm1
            have hm1' : H' m1 = none := by rw [upd_ne nf1.symm] at hm1; exact hm1
            walk_at "v"
            intro d hd
            have cp : cset c' m1 i p = i := by rw [cset_ne np1]; exact g1
            have kp3 : Keeps (fun z => z = i) c' H' (cset c' m1 i) (upd (upd (upd H' lf' (.lst (F.map V.str))) m1 (.lst [])) p (.dK [(Sum.inr "safe", .ref lf'), (Sum.inr "rest", .ref m1), (Sum.inr "moves", .int s1.moves), (Sum.inr "keeps", .ref lk')])) := (((keeps_put g3).new hm1).put cp)
            have hD3 : OwnAt K (cset c' m1 i) i (upd (upd (upd H' lf' (.lst (F.map V.str))) m1 (.lst [])) p (.dK [(Sum.inr "safe", .ref lf'), (Sum.inr "rest", .ref m1), (Sum.inr "moves", .int s1.moves), (Sum.inr "keeps", .ref lk')])) p (safeD s1) := by
              refine ⟨lf', m1, lk', [], cp, upd_same, ?_, ?_, cset_same, ?_, nf1, .nil, g9.keep kp3 (fun z => hi z.symm)⟩
              · rw [cset_ne nf1]
                exact g3
              · rw [upd_ne npf.symm, upd_ne nf1, upd_same, ← hF]
                rfl
              · rw [upd_ne np1.symm, upd_same]
            obtain ⟨e1, e2, e3⟩ := own_tup (kp.trans kp3) hD3 hd (ds := [.str "told", .non]) (.cons (.str _) (.cons .non .nil))
            exact k' _ _ _ e1 e2 e3
      | read a =>
        dsimp only [Call.word]
        have hC2 : TpAt K 0 c1 H1 q [.str "read", .int a] := hC1
        have bad : inB s a = false → ∀ d, H1 d = none → Q (.ref d) (upd H1 d (.tup [.str "record", .int a])) := fun hb d hd => by
          obtain ⟨e1, e2, e3⟩ := own_tup (Keeps.refl (I := fun z => z = i) (c := c1)) hD1 hd (ds := [.str "record", .int a]) (.cons (.str _) (.cons (.int _) .nil))
          refine k1 _ _ _ e1 ?_ ?_
          · simp only [tellC, hb, Bool.false_and]
            exact e2
          · simp only [tellC, hb, Bool.false_and]
            exact e3
        walk_at "v"
        refine ite2 (fun d1 => ?_) (fun d1 => ?_)
        · walk_at "v"
          refine ite2 (fun d2 => ?_) (fun d2 => ?_)
          · walk_at "v"
            exact bad (in_false fun z => by have e := z.2; simp at d2; omega)
          · have b0 := of_decide_eq_true d1
            have b1 : a < (s.firm.length : Int) := by simpa using d2
            have hb := in_true b0 b1
            have hat := firm_at b0 b1
            walk_at "v"
            intro m0 hm0
            refine lc_list (xs := rows) (fun j Hx => Hx = upd H1 m0 (.lst ((picks s.fresh a j).map V.str))) rfl (fun j Hx _ z => by rw [z]; exact .inl (.inl (hp2 (ne_of_none h6 hm0) h6))) ?_ ?_
            · rintro j x Hx hx rfl
              obtain ⟨q1, ta, hq1, rfl, q3⟩ := rows_get h8 hx
              have kp1 : Keeps None' c1 H1 (cset c1 m0 7) (upd H1 m0 (.lst ((picks s.fresh a j).map V.str))) := keeps_new hm0
              have st := (q3.keep kp1 (fun z => z)).sq
              have sc := (hC2.keep kp1 (fun z => z)).sq
              have hlen : ((picks s.fresh a j).map V.str).length < sizeLine := by
                have := picks_len s.fresh a j
                have := szL
                rw [List.length_map]
                omega
              have hstep := picks_succ a hq1
              walk_at "v"
              refine ite2 (fun d3 => ?_) (fun d3 => ?_)
              · rw [if_pos (dint d3)] at hstep
                walk_at "v"
                rw [upd_upd, hstep, List.map_append]
                rfl
              · rw [if_neg (dintn d3)] at hstep
                rw [hstep]
            · rintro Hx rfl
              rw [rows_len h8]
              have hp0 := picks_read s a
              have kp1 : Keeps None' c1 H1 (cset c1 m0 0) (upd H1 m0 (.lst ((picks s.fresh a s.fresh.length).map V.str))) := keeps_new hm0
              have sc := (hC2.keep kp1 (fun z => z)).sq
              have hD2 := hD1.keep kp1 (fun z => z) (fun z => z)
              have npm : p ≠ m0 := ne_of_none h2 hm0
              have nfm : lf ≠ m0 := ne_of_none h4 hm0
              generalize picks s.fresh a s.fresh.length = F at hp0 kp1 hD2 sc
              have fin : ∀ d, upd H1 m0 (.lst (F.map V.str)) d = none → Q (.ref d) (upd (upd H1 m0 (.lst (F.map V.str))) d (.tup [.str "told", .str (readD s a)])) := fun d hd => by
                obtain ⟨e1, e2, e3⟩ := own_tup kp1.any hD2 hd (ds := [.str "told", .str (readD s a)]) (.cons (.str _) (.cons (.str _) .nil))
                refine k1 _ _ _ e1 ?_ ?_
                · simp only [tellC, hb, if_true]
                  exact e2
                · simp only [tellC, hb, if_true]
                  exact e3
              walk_at "v"
              refine ite2 (fun d3 => ?_) (fun d3 => ?_)
              · have hF : F ≠ [] := fun z => by rw [z] at d3; simp at d3
                have hlast := atI_last hF
                rw [← hp0.1 hF] at fin
                walk_at "v"
                exact fin
              · have hF : F = [] := by
                  cases F with
                  | nil => rfl
                  | cons x r => exact absurd (by simp) d3
                subst hF
                rw [hp0.2 rfl] at fin
                walk_at "v"
                exact fin
        · walk_at "v"
          exact bad (in_false fun z => d1 (decide_eq_true z.1))
      | safe a =>
        dsimp only [Call.word]
        have hC2 : TpAt K 0 c1 H1 q [.str "safe", .int a] := hC1
        have bad : inB s a = false → ∀ d, H1 d = none → Q (.ref d) (upd H1 d (.tup [.str "record", .int a])) := fun hb d hd => by
          obtain ⟨e1, e2, e3⟩ := own_tup (Keeps.refl (I := fun z => z = i) (c := c1)) hD1 hd (ds := [.str "record", .int a]) (.cons (.str _) (.cons (.int _) .nil))
          refine k1 _ _ _ e1 ?_ ?_
          · simp only [tellC, hb, Bool.false_and]
            exact e2
          · simp only [tellC, hb, Bool.false_and]
            exact e3
        walk_at "v"
        refine ite2 (fun d1 => ?_) (fun d1 => ?_)
        · walk_at "v"
          refine ite2 (fun d2 => ?_) (fun d2 => ?_)
          · walk_at "v"
            exact bad (in_false fun z => by have e := z.2; simp at d2; omega)
          · have b0 := of_decide_eq_true d1
            have b1 : a < (s.firm.length : Int) := by simpa using d2
            have hb := in_true b0 b1
            have hat := firm_at b0 b1
            walk_at "v"
            intro d hd
            obtain ⟨e1, e2, e3⟩ := own_tup (Keeps.refl (I := fun z => z = i) (c := c1)) hD1 hd (ds := [.str "told", .str (s.firm.getD a.toNat Str.empty)]) (.cons (.str _) (.cons (.str _) .nil))
            refine k1 _ _ _ e1 ?_ ?_
            · simp only [tellC, hb, if_true]
              exact e2
            · simp only [tellC, hb, if_true]
              exact e3
        · walk_at "v"
          exact bad (in_false fun z => d1 (decide_eq_true z.1))
      | fall ks =>
        dsimp only [Call.word]
        obtain ⟨l, hC2, hl⟩ := hC1
        walk_at "v"
        refine ⟨c1, i, 0, p, l, s, ks, rfl, hD1, hW, hi, hi.symm, hl, Nat.le_trans hok (by decide), ?_⟩
        intro c' H' kp hD'
        walk_at "v"
        intro d hd
        obtain ⟨e1, e2, e3⟩ := own_tup kp hD' hd (ds := [.str "told", .non]) (.cons (.str _) (.cons .non .nil))
        exact k1 _ _ _ e1 e2 e3
      | order n ks =>
        dsimp only [Call.word]
        obtain ⟨l, hC2, hl⟩ := hC1
        walk_at "v"
        intro m1 hm1
        have np1 : p ≠ m1 := ne_of_none h2 hm1
        walk_at "v"
        intro d hd
        have npf : lf ≠ p := ne_ho h4 h2 (by nofun)
        have npr : lr ≠ p := ne_ho h6 h2 (by nofun)
        have nf1 : lf ≠ m1 := ne_of_none h4 hm1
        have nr1 : lr ≠ m1 := ne_of_none h6 hm1
        have cp : cset c1 m1 0 p = i := by rw [cset_ne np1]; exact h1
        have kp3 : Keeps (fun z => z = i) c1 H1 (cset c1 m1 0) (upd (upd (upd H1 m1 (.tup [.int n, .ref l])) p (.dK [(Sum.inr "safe", .ref lf), (Sum.inr "rest", .ref lr), (Sum.inr "moves", .int n), (Sum.inr "keeps", .ref lk)])) p (.dK [(Sum.inr "safe", .ref lf), (Sum.inr "rest", .ref lr), (Sum.inr "moves", .int n), (Sum.inr "keeps", .ref l)])) := (((keeps_new hm1).put cp).put cp)
        have hD3 : OwnAt K (cset c1 m1 0) i (upd (upd (upd H1 m1 (.tup [.int n, .ref l])) p (.dK [(Sum.inr "safe", .ref lf), (Sum.inr "rest", .ref lr), (Sum.inr "moves", .int n), (Sum.inr "keeps", .ref lk)])) p (.dK [(Sum.inr "safe", .ref lf), (Sum.inr "rest", .ref lr), (Sum.inr "moves", .int n), (Sum.inr "keeps", .ref l)])) p { s with moves := n, keeps := ks } := by
          refine ⟨lf, lr, l, rows, cp, upd_same, by rw [cset_ne nf1]; exact h3, ?_, by rw [cset_ne nr1]; exact h5, ?_, h7, h8.keep kp3 (fun z => hi z.symm), hl.keep kp3 (fun z => hi z.symm)⟩
          · rw [upd_ne npf, upd_ne npf, upd_ne nf1]
            exact h4
          · rw [upd_ne npr, upd_ne npr, upd_ne nr1]
            exact h6
        obtain ⟨e1, e2, e3⟩ := own_tup kp3 hD3 hd (ds := [.str "told", .non]) (.cons (.str _) (.cons .non .nil))
        exact k1 _ _ _ e1 e2 e3
      | spoil a n sg =>
        dsimp only [Call.word]
        have hC2 : TpAt K 0 c1 H1 q [.str "spoil", .int a, .int n, .str sg] := hC1
        have bad : inB s a = false → ∀ d, H1 d = none → Q (.ref d) (upd H1 d (.tup [.str "record", .int a])) := fun hb d hd => by
          obtain ⟨e1, e2, e3⟩ := own_tup (Keeps.refl (I := fun z => z = i) (c := c1)) hD1 hd (ds := [.str "record", .int a]) (.cons (.str _) (.cons (.int _) .nil))
          refine k1 _ _ _ e1 ?_ ?_
          · simp only [tellC, hb, Bool.false_and]
            exact e2
          · simp only [tellC, hb, Bool.false_and]
            exact e3
        walk_at "v"
        refine ite2 (fun d1 => ?_) (fun d1 => ?_)
        · walk_at "v"
          refine ite2 (fun d2 => ?_) (fun d2 => ?_)
          · walk_at "v"
            exact bad (in_false fun z => by have e := z.2; simp at d2; omega)
          · have b0 := of_decide_eq_true d1
            have b1 : a < (s.firm.length : Int) := by simpa using d2
            have hb := in_true b0 b1
            have hat := firm_at b0 b1
            have lo := getD_len (i := a.toNat) hW.fm (by omega)
            have l1 : (s.firm.getD a.toNat Str.empty).length ≤ sizeLine := by rw [lo]; decide
            have lsp := spoil_len (sg := sg) lo hok.1 hok.2.1 hok.2.2
            have e4 : ixN (s.firm.map V.str).length a = some a.toNat := ixN_i b0 (by rw [List.length_map]; exact b1)
            have l2 : (cutS (s.firm.getD a.toNat Str.empty) none (some n)).length + sg.length ≤ sizeLine := by
              unfold spoil at lsp
              rw [app_len, app_len] at lsp
              have := szL
              omega
            have l3 : (cutS (s.firm.getD a.toNat Str.empty) none (some n) ++ sg).length + (cutS (s.firm.getD a.toNat Str.empty) (some (n + 1)) none).length ≤ sizeLine := by
              unfold spoil at lsp
              rw [app_len] at lsp
              rw [lsp]
              decide
            walk_at "v"
            intro d hd
            have npf : p ≠ lf := ne_ho h2 h4 (by nofun)
            have kp1 := keeps_put (I := fun z => z = i) (H := H1) (o := .lst ((s.firm.map V.str).set a.toNat (.str (spoil (s.firm.getD a.toNat Str.empty) n sg)))) h3
            have hD2 : OwnAt K c1 i (upd H1 lf (.lst ((s.firm.map V.str).set a.toNat (.str (spoil (s.firm.getD a.toNat Str.empty) n sg))))) p (spoilD s a n sg) := by
              refine ⟨lf, lr, lk, rows, h1, hp2 npf h2, h3, ?_, h5, hp2 h7.symm h6, h7, h8.keep kp1 (fun z => hi z.symm), h9.keep kp1 (fun z => hi z.symm)⟩
              rw [upd_same]
              exact congrArg (fun z => some (HO.lst z)) set_map
            obtain ⟨e1, e2, e3⟩ := own_tup kp1 hD2 hd (ds := [.str "told", .non]) (.cons (.str _) (.cons .non .nil))
            refine k1 _ _ _ e1 ?_ ?_
            · simp only [tellC, hb, if_true]
              exact e2
            · simp only [tellC, hb, if_true]
              exact e3
        · walk_at "v"
          exact bad (in_false fun z => d1 (decide_eq_true z.1))
end



open PySem L2


theorem DrawsAt.recol {K : PySem.W.Frag} {c : Col} {j : Nat} {H : Hp} {a m : Addr} (n : a ≠ m) (h : DrawsAt K c j H a) : DrawsAt K (cset c m 0) j H a := by
  obtain ⟨s, ns, pos, d2, d3, h1, h2, h3, h4, h5⟩ := h
  exact ⟨s, ns, pos, d2, d3, by rw [cset_ne n]; exact h1, h2, h3.recol, h4, h5⟩
theorem DrawsAt.put {K : PySem.W.Frag} {c : Col} {j : Nat} {H : Hp} {a m : Addr} {o : HO} (hm : c m = j + 1) (h : DrawsAt K c j H a) : DrawsAt K c j (upd H m o) a :=
  h.keep (I := fun z => z = j + 1) (keeps_put hm) (by omega) (by omega)
theorem pick7 {v : Int} (h0 : 0 ≤ v) (h1 : v < 7) : ∃ z : Int, atI [V.int 0, V.int 5, V.int 40, V.int 383, V.int 384, V.int 385, V.int 390] v = some (.int z) ∧ 0 ≤ z ∧ z ≤ 390 := by
  have : v = 0 ∨ v = 1 ∨ v = 2 ∨ v = 3 ∨ v = 4 ∨ v = 5 ∨ v = 6 := by omega
  rcases this with rfl | rfl | rfl | rfl | rfl | rfl | rfl
  all_goals exact ⟨_, rfl, by decide, by decide⟩
theorem pick4 {v y : Int} (h0 : 0 ≤ v) (h1 : v < 4) : ∃ z : Int, atI [V.int 0, V.int 384, V.int 400, V.int y] v = some (.int z) := by
  have : v = 0 ∨ v = 1 ∨ v = 2 ∨ v = 3 := by omega
  rcases this with rfl | rfl | rfl | rfl
  all_goals exact ⟨_, rfl⟩
theorem str_at {z : Str} {n : Nat} (hz : z.cps.toList.length = n) {v : Int} (h0 : 0 ≤ v) (h1 : v < (n : Int)) : ∃ ch, atI z.cps.toList v = some ch :=
  ⟨_, at_i h0 (List.getElem?_eq_getElem (by omega))⟩
theorem glue_len : ∀ (rest : List Str) (acc : Array Nat), (rest.foldl (fun acc p => acc ++ (("" : Str)).cps ++ p.cps) acc).size = acc.size + (rest.map (·.length)).sum
  | [], acc => by simp
  | x :: r, acc => by
    rw [List.foldl_cons, glue_len r]
    have e : (("" : Str)).cps.size = 0 := by decide +kernel
    rw [Array.size_append, Array.size_append, e, List.map_cons, List.sum_cons]
    show acc.size + 0 + x.length + _ = _
    omega
theorem join_len (ys : List Str) : (Txt.join "" ys).length = (ys.map (·.length)).sum := by
  cases ys with
  | nil => decide +kernel
  | cons x r =>
    show (r.foldl (fun acc p => acc ++ (("" : Str)).cps ++ p.cps) x.cps).size = _
    rw [glue_len, List.map_cons, List.sum_cons]
    rfl
theorem ones_sum : ∀ {ss : List Str}, (∀ t ∈ ss, t.length = 1) → (ss.map (·.length)).sum = ss.length
  | [], _ => rfl
  | x :: r, h => by
    rw [List.map_cons, List.sum_cons, ones_sum (fun t ht => h t (List.mem_cons_of_mem _ ht)), h x List.mem_cons_self, List.length_cons]
    omega
theorem cutS_to (z : Str) {n : Int} {m : Nat} (h0 : 0 ≤ n) (h : n ≤ (m : Int)) : (cutS z none (some n)).length ≤ m := by
  rw [cutS_len]
  obtain ⟨q, rfl⟩ : ∃ q : Nat, n = (q : Int) := ⟨n.toNat, by omega⟩
  rw [HT.sIx_nat z.length z.length q]
  omega
section
variable {P : Program} {w : World} {K : PySem.W.Frag} {mg : Str → Option Value} {base : Heap} {f CD CR CF fI : Addr} {fd : FuncData}
abbrev DrawOk (P : Program) (w : World) (K : PySem.W.Frag) (mg : Str → Option Value) (base : Heap) : Prop := DefOk P w K mg base CX0 1 "_law_draw" ["draws", "limit"] (spDraw K)
def spKeeps (K : PySem.W.Frag) : Sp := fun vs H Q _ => ∃ (c : Col) (j : Nat) (a : Addr) (n : Int), vs = [.ref a, .int n] ∧ j ≠ 0 ∧ 0 ≤ n ∧ n ≤ 900 ∧ DrawsAt K c j H a ∧
  ∀ (c' : Col) (H' : Hp) (l : Addr) (ks : List Int), ks.length ≤ 1000 → Keeps (fun z => z = j) c H c' H' → DrawsAt K c' j H' a → LsAt K 0 c' H' l (ks.map V.int) → Q (.ref l) H'
theorem ok_keeps (F : FnP K "_law_keeps" s__law_keeps f fd) (m : mg "_law_keeps" = some (.ref f)) (b : Binds K fd ["draws", "many"] []) (T : Blt mg) (G__law_draw : DrawOk P w K mg base) :
    DefOk P w K mg base CX0 2 "_law_keeps" ["draws", "many"] (spKeeps K) := by
  refine mk_def F m b sc__law_keeps (fun vs H Q E h => ?_) (fun cdv A outer s H vs Q E hr h => ?_)
  · obtain ⟨c, j, a, n, rfl, _⟩ := h
    rfl
  · obtain ⟨c, j, a, n, rfl, hj, n0, n9, hD, k⟩ := h
    refine' ⟨_, PSs.nox ?der, ?rd⟩
    case der => exact
        (pss_cons (ps_set (i := 2) sc__law_keeps.nd rfl (by first | exact Or.inl rfl | exact Or.inr rfl) (pe_lst pa_nil))
         (pss_cons (ps_for PassesOwn.never rfl (pi_range1 (by rfl) T.range (pa_cons (pe_D G__law_draw (hr.mono (by omega)) (pa_cons (pv 0) (pa_cons (pe_op op_add (pv 1) pe_int) pa_nil))) pa_nil)) (pg_name (i := 3) sc__law_keeps.nd rfl (by first | exact Or.inl rfl | exact Or.inr rfl))
          (pss_cons (ps_set (i := 4) sc__law_keeps.nd rfl (by first | exact Or.inl rfl | exact Or.inr rfl) (pe_D G__law_draw (hr.mono (by omega)) (pa_cons (pv 0) (pa_cons pe_int pa_nil))))
         (pss_one (ps_expr (pe_bm' (K := K) PySem.F.plainAttrs_list PySem.F.slot_list_append PySem.F.type_list_append mt_append (pv 2) (pa_cons (pe_ix (ix_list' (K := K)) (pe_lst (pa_cons pe_int (pa_cons pe_int (pa_cons pe_int (pa_cons (pe_op op_add pe_int (pe_D G__law_draw (hr.mono (by omega)) (pa_cons (pv 0) (pa_cons pe_int pa_nil)))) pa_nil))))) (pv 4) (fun _ _ => rfl)) pa_nil))))))
         (pss_one (ps_ret (pv 2)))))
    case rd =>
      walk_at "v"
      intro m0 hm0
      walk_at "v"
      have hc0 : cset c m0 (j + 1) m0 = j + 1 := cset_same
      have k0 : Keeps (fun z => z = j) c H (cset c m0 (j + 1)) (upd H m0 (.lst [])) := keeps_new hm0
      refine ⟨cset c m0 (j + 1), j, a, n + 2, rfl, by omega, by omega, hj, (hD.keep (I := None') (keeps_new (q := j + 1) (o := .lst []) hm0) (fun z => z) (fun z => z)), ?_⟩
      intro v H1 v0 v1 k1 hD1
      generalize hc : cset c m0 (j + 1) = c1 at hc0 k0 k1 hD1
      have hm1 : H1 m0 = some (.lst []) := k1.at upd_same (by rw [hc0]; omega)
      walk_at "v"
      obtain ⟨q, rfl⟩ : ∃ q : Nat, v = (q : Int) := ⟨v.toNat, by omega⟩
      rw [Int.toNat_natCast]
      refine for_range (fun i σ Hx => ∃ (x y : Option V) (ks : List Int), σ = [some (.ref a), some (.int n), some (.ref m0), x, y] ∧ ks.length = i ∧ Hx m0 = some (.lst (ks.map V.int)) ∧ Keeps (fun z => z = j) c H c1 Hx ∧ DrawsAt K c1 j Hx a) ?_ ?_ ?_
      · exact ⟨none, none, [], rfl, rfl, hm1, k0.trans k1, hD1⟩
      · rintro i σ Hx hi ⟨x, y, ks, rfl, hl, hk, kp, hDx⟩
        walk_at "v"
        refine ⟨c1, j, a, 4, rfl, by omega, by omega, hj, hDx, ?_⟩
        intro v2 H2 w0 w1 k2 hD2
        have hk2 : H2 m0 = some (.lst (ks.map V.int)) := k2.at hk (by rw [hc0]; omega)
        walk_at "v"
        refine ⟨c1, j, a, 383, rfl, by omega, by omega, hj, hD2, ?_⟩
        intro v3 H3 u0 u1 k3 hD3
        have hk3 : H3 m0 = some (.lst (ks.map V.int)) := k3.at hk2 (by rw [hc0]; omega)
        walk_at "v"
        intro m1 hm1
        have n01 : m0 ≠ m1 := ne_of_none hk3 hm1
        obtain ⟨z, hz⟩ := pick4 (y := 1 + v3) w0 w1
        have hls : (ks.map V.int).length < sizeLine := by
          have := szL
          rw [List.length_map]
          omega
        walk_at "v"
        refine ⟨_, _, ks ++ [z], rfl, by rw [List.length_append, hl]; rfl, ?_, ?_, ?_⟩
        · rw [upd_same, List.map_append]
          rfl
        · exact (((kp.trans k2).trans k3).own (((kp.trans k2).trans k3).fresh hm1)).own hm0
        · exact DrawsAt.put hc0 (hD3.keep (I := None') (Keeps.refl.own hm1) (fun z => z) (fun z => z))
      · rintro σ Hx ⟨x, y, ks, rfl, hl, hk, kp, hDx⟩
        walk_at "v"
        refine k (cset c1 m0 0) Hx m0 ks (by omega) (kp.recol hm0) (hDx.recol ?_) (LsAt.mk cset_same hk)
        rintro rfl
        obtain ⟨_, _, _, _, _, h1, _⟩ := hDx
        omega
def spText (K : PySem.W.Frag) : Sp := fun vs H Q _ => ∃ (c : Col) (j : Nat) (a : Addr), vs = [.ref a] ∧ j ≠ 0 ∧ DrawsAt K c j H a ∧
  ∀ c' H' (t : Str), t.length ≤ 1000 → Keeps (fun z => z = j) c H c' H' → DrawsAt K c' j H' a → Q (.str t) H'
theorem ok_text (F : FnP K "_law_text" s__law_text f fd) (m : mg "_law_text" = some (.ref f)) (b : Binds K fd ["draws"] []) (T : Blt mg) (G__law_draw : DrawOk P w K mg base) :
    DefOk P w K mg base CX0 2 "_law_text" ["draws"] (spText K) := by
  refine mk_def F m b sc__law_text (fun vs H Q E h => ?_) (fun cdv A outer s H vs Q E hr h => ?_)
  · obtain ⟨c, j, a, rfl, _⟩ := h
    rfl
  · obtain ⟨c, j, a, rfl, hj, hD, k⟩ := h
    refine' ⟨_, PSs.nox ?der, ?rd⟩
    case der => exact
        (pss_cons (ps_set (i := 1) sc__law_text.nd rfl (by first | exact Or.inl rfl | exact Or.inr rfl) (pe_ix (ix_list' (K := K)) (pe_lst (pa_cons pe_int (pa_cons pe_int (pa_cons pe_int (pa_cons pe_int (pa_cons pe_int (pa_cons pe_int (pa_cons pe_int pa_nil)))))))) (pe_D G__law_draw (hr.mono (by omega)) (pa_cons (pv 0) (pa_cons pe_int pa_nil))) (fun _ _ => rfl)))
         (pss_cons (ps_set (i := 2) sc__law_text.nd rfl (by first | exact Or.inl rfl | exact Or.inr rfl) (pe_join' (K := K) pe_str (pe_lc (own := [("k", 3)]) rfl sc__law_text.nd (pi_range1 (by rfl) T.range (pa_cons pe_int pa_nil)) (blkOk_by (own := [("k", 3)]) (N := ["draws", "size", "base", "k"]) (sc := (defScope s__law_text)) (by decide +kernel)) (fun _ _ _ _ _ => (pg_name (i := 3) sc__law_text.nd rfl (by first | exact Or.inl rfl | exact Or.inr rfl))) (fun _ _ _ _ _ => pts_nil) (fun _ _ _ _ _ => (pe_ix ix_str pe_str (pe_D G__law_draw (hr.mono (by omega)) (pa_cons (pv 0) (pa_cons pe_int pa_nil))) (fun _ _ => rfl))))))
         (pss_one (ps_ret (pe_slice sl_str (pe_op op_repS (pv 2) (pe_op op_add (pe_op op_fdiv (pv 1) pe_int) pe_int)) po_none (po_some (pv 1)))))))
    case rd =>
      walk_at "v"
      intro m0 hm0
      walk_at "v"
      have k0 : Keeps (fun z => z = j) c H (cset c m0 (j + 1)) (upd H m0 (.lst [.int 0, .int 5, .int 40, .int 383, .int 384, .int 385, .int 390])) := keeps_new hm0
      refine ⟨cset c m0 (j + 1), j, a, 7, rfl, by omega, by omega, hj, (hD.keep (I := None') (keeps_new (q := j + 1) hm0) (fun z => z) (fun z => z)), ?_⟩
      intro v H1 v0 v1 k1 hD1
      have hc0 : cset c m0 (j + 1) m0 = j + 1 := cset_same
      generalize cset c m0 (j + 1) = c1 at hc0 k0 k1 hD1
      have hm1 := k1.at upd_same (by rw [hc0]; omega)
      obtain ⟨z, hz, z0, z1⟩ := pick7 v0 v1
      walk_at "v"
      intro m1 hm1'
      have k2 : Keeps (fun z => z = j) c H (cset c1 m1 (j + 1)) (upd H1 m1 (.lst [])) := (k0.trans k1).trans (keeps_new hm1')
      have hD2 : DrawsAt K (cset c1 m1 (j + 1)) j (upd H1 m1 (.lst [])) a := hD1.keep (I := None') (keeps_new (q := j + 1) hm1') (fun z => z) (fun z => z)
      have hc2 : cset c1 m1 (j + 1) m1 = j + 1 := cset_same
      generalize cset c1 m1 (j + 1) = c2 at hc2 k2 hD2
      refine lc_range (fun i Hx => ∃ ss : List Str, ss.length = i ∧ (∀ t ∈ ss, t.length = 1) ∧ Hx m1 = some (.lst (ss.map V.str)) ∧ Keeps (fun z => z = j) c H c2 Hx ∧ DrawsAt K c2 j Hx a) ?_ ?_ ?_
      · exact ⟨[], rfl, (fun t ht => by cases ht), upd_same, k2, hD2⟩
      · rintro i Hx hi ⟨ss, hl, hs, hk, kp, hDx⟩
        walk_at "v"
        refine ⟨c2, j, a, 16, rfl, by omega, by omega, hj, hDx, ?_⟩
        intro v2 H2 w0 w1 k3 hD3
        have hk2 : H2 m1 = some (.lst (ss.map V.str)) := k3.at hk (by rw [hc2]; omega)
        obtain ⟨ch, hch⟩ := str_at (z := " abcxyz0189~!AZ/") (n := 16) (by decide +kernel) w0 w1
        walk_at "v"
        have hls : (ss.map V.str).length < sizeLine := by
          have := szL
          rw [List.length_map]
          omega
        refine ⟨_, _, ch, rfl, rfl, by decide +kernel, hch, ?_⟩
        refine ⟨ss.map V.str, hk2, hls, ss ++ [⟨#[ch]⟩], by rw [List.length_append, hl]; rfl, fun t ht => ?_, ?_, ?_, ?_⟩
        · rcases List.mem_append.mp ht with h | h
          · exact hs t h
          · rw [List.mem_singleton.mp h]
            rfl
        · rw [upd_same, List.map_append]
          rfl
        · exact (kp.trans k3).own ((k0.trans k1).fresh hm1')
        · exact DrawsAt.put hc2 hD3
      · rintro Hx ⟨ss, hl, hs, hk, kp, hDx⟩
        have hj7 := join_len ss
        have hl7 : ss.length = 7 := hl
        rw [ones_sum hs, hl7] at hj7
        have hsum := ones_sum hs
        refine ⟨_, m1, ss, rfl, rfl, .inl (SqL.of hk), ?_, ?_⟩
        · rw [hsum, hl7]
          decide +kernel
        · have e1 : -1000000 ≤ z / 7 + 1 := by omega
          have e2 : z / 7 + 1 ≤ 1000000 := by omega
          have e3 : (Txt.join "" ss).length * (z / 7 + 1).toNat ≤ 1000000 := by
            rw [hj7]
            omega
          have e4 : (strRep (Txt.join "" ss) (z / 7 + 1).toNat).length ≤ sizeLine := by
            rw [strRep_len]
            have := szL
            have e5 := Nat.mul_comm (z / 7 + 1).toNat (Txt.join "" ss).length
            omega
          walk_at "v"
          exact k c2 Hx _ (Nat.le_trans (cutS_to _ z0 (m := 390) z1) (by decide)) kp hDx
end



open PySem L2


theorem pick3 {v x y z : Int} (h0 : 0 ≤ v) (h1 : v < 3) : ∃ u : Int, (u = x ∨ u = y ∨ u = z) ∧ atI [V.int x, V.int y, V.int z] v = some (.int u) := by
  have : v = 0 ∨ v = 1 ∨ v = 2 := by omega
  rcases this with rfl | rfl | rfl
  · exact ⟨_, .inl rfl, rfl⟩
  · exact ⟨_, .inr (.inl rfl), rfl⟩
  · exact ⟨_, .inr (.inr rfl), rfl⟩
section
variable {P : Program} {w : World} {K : PySem.W.Frag} {mg : Str → Option Value} {base : Heap} {f CD CR CF fI : Addr} {fd : FuncData}
def spCall (K : PySem.W.Frag) : Sp := fun vs H Q _ => ∃ (c : Col) (j i : Nat) (a p : Addr) (s : Dk), vs = [.ref a, .ref p] ∧ j ≠ 0 ∧ i ≠ j ∧ DrawsAt K c j H a ∧ OwnAt K c i H p s ∧ Wf s ∧ s.fresh.length ≤ 900 ∧
  ∀ (c' : Col) (H' : Hp) (call : Call) (q : Addr), call.ok → Keeps (fun z => z = j) c H c' H' → DrawsAt K c' j H' a → Is K 0 c' H' call.d (.ref q) → Q (.ref q) H'
theorem ok_call (F : FnP K "_law_call" s__law_call f fd) (m : mg "_law_call" = some (.ref f)) (b : Binds K fd ["draws", "own"] []) (T : Blt mg) (G__law_draw : DrawOk P w K mg base)
    (G__law_text : DefOk P w K mg base CX0 2 "_law_text" ["draws"] (spText K)) (G__law_keeps : DefOk P w K mg base CX0 2 "_law_keeps" ["draws", "many"] (spKeeps K)) : DefOk P w K mg base CX0 3 "_law_call" ["draws", "own"] (spCall K) := by
  refine mk_def F m b sc__law_call (fun vs H Q E h => ?_) (fun cdv A outer s H vs Q E hr h => ?_)
  · obtain ⟨c, j, i, a, p, s, rfl, _⟩ := h
    rfl
  · obtain ⟨c, j, i, a, p, s, rfl, hj, hij, hD, hO, hW, hf, k⟩ := h
    refine' ⟨_, PSs.nox ?der, ?rd⟩
    case der => exact
        (pss_cons (ps_set (i := 2) sc__law_call.nd rfl (by first | exact Or.inl rfl | exact Or.inr rfl) (pe_D G__law_draw (hr.mono (by omega)) (pa_cons (pv 0) (pa_cons pe_int pa_nil))))
         (pss_cons (ps_set (i := 3) sc__law_call.nd rfl (by first | exact Or.inl rfl | exact Or.inr rfl) (pe_callB (call_len_seq' (K := K)) (by rfl) T.len (by decide +kernel) (pa_cons (pe_dget (hu_of hr) (pv 1) pe_str (fun _ _ => rfl)) pa_nil)))
         (pss_cons (ps_set (i := 4) sc__law_call.nd rfl (by first | exact Or.inl rfl | exact Or.inr rfl) (pe_D G__law_draw (hr.mono (by omega)) (pa_cons (pv 0) (pa_cons (pv 3) pa_nil))))
         (Evl.pss_cut (ps_if (pt_cmpR op_eq (pe_D G__law_draw (hr.mono (by omega)) (pa_cons (pv 0) (pa_cons pe_int pa_nil))) pe_int (nomark _))
          (pss_one (ps_set (i := 4) sc__law_call.nd rfl (by first | exact Or.inl rfl | exact Or.inr rfl) (pe_ix (ix_list' (K := K)) (pe_lst (pa_cons (pe_un un_neg pe_int) (pa_cons (pv 3) (pa_cons (pe_op op_add (pv 3) pe_int) pa_nil)))) (pe_D G__law_draw (hr.mono (by omega)) (pa_cons (pv 0) (pa_cons pe_int pa_nil))) (fun _ _ => rfl))))
          pss_nil)
         (pss_cons (ps_if (pt_cmpR op_lt (pv 2) pe_int (nomark _))
          (pss_one (ps_ret (pe_tup (pa_cons pe_str (pa_cons (pv 4) (pa_cons (pe_D G__law_text (hr.mono (by omega)) (pa_cons (pv 0) pa_nil)) pa_nil))))))
          pss_nil)
         (pss_cons (ps_if (pt_cmpR op_lt (pv 2) pe_int (nomark _))
          (pss_one (ps_ret (pe_tup (pa_cons pe_str pa_nil))))
          pss_nil)
         (pss_cons (ps_if (pt_cmpR op_lt (pv 2) pe_int (nomark _))
          (pss_one (ps_ret (pe_tup (pa_cons (pe_ix (ix_list' (K := K)) (pe_lst (pa_cons pe_str (pa_cons pe_str pa_nil))) (pe_op op_sub (pv 2) pe_int) (fun _ _ => rfl)) (pa_cons (pv 4) pa_nil)))))
          pss_nil)
         (pss_cons (ps_if (pt_cmpR op_lt (pv 2) pe_int (nomark _))
          (pss_one (ps_ret (pe_tup (pa_cons pe_str (pa_cons (pe_D G__law_keeps (hr.mono (by omega)) (pa_cons (pv 0) (pa_cons (pe_callB (call_len_seq' (K := K)) (by rfl) T.len (by decide +kernel) (pa_cons (pe_dget (hu_of hr) (pv 1) pe_str (fun _ _ => rfl)) pa_nil)) pa_nil))) pa_nil)))))
          pss_nil)
         (pss_cons (ps_if (pt_cmpR op_lt (pv 2) pe_int (nomark _))
          (pss_one (ps_ret (pe_tup (pa_cons pe_str (pa_cons (pe_D G__law_draw (hr.mono (by omega)) (pa_cons (pv 0) (pa_cons (pe_ix (ix_list' (K := K)) (pe_lst (pa_cons pe_int (pa_cons pe_int (pa_cons pe_int pa_nil)))) (pe_D G__law_draw (hr.mono (by omega)) (pa_cons (pv 0) (pa_cons pe_int pa_nil))) (fun _ _ => rfl)) pa_nil))) (pa_cons (pe_D G__law_keeps (hr.mono (by omega)) (pa_cons (pv 0) (pa_cons pe_int pa_nil))) pa_nil))))))
          pss_nil)
         (pss_one (ps_ret (pe_tup (pa_cons pe_str (pa_cons (pv 4) (pa_cons (pe_D G__law_draw (hr.mono (by omega)) (pa_cons (pv 0) (pa_cons pe_int pa_nil))) (pa_cons (pe_ix ix_str pe_str (pe_D G__law_draw (hr.mono (by omega)) (pa_cons (pv 0) (pa_cons pe_int pa_nil))) (fun _ _ => rfl)) pa_nil))))))))))))))))
    case rd =>
      have lo := hW.lo
      have hi5 := hW.hi
      obtain ⟨lf, lr, lk, rows, h1, h2, h3, h4, h5, h6, h7, h8, h9⟩ := hO.ex
      walk_at "v"
      refine ⟨c, j, a, 20, rfl, by omega, by omega, hj, hD, ?_⟩
      intro kind H1 q0 q1 k1 hD1
      obtain ⟨lf', lr', lk', rows', g1, g2, g3, g4, g5, g6, g7, g8, g9⟩ := (hO.keep k1 hij (fun z => hj z.symm)).ex
      walk_at "v"
      refine ⟨c, j, a, (s.firm.map V.str).length, rfl, by rw [List.length_map]; omega, by rw [List.length_map]; omega, hj, hD1, ?_⟩
      intro at0 H2 w0 w1 k2 hD2
      walk_at "v"
      refine ⟨fun σ' H' => ∃ (at' : Int) (c' : Col), σ' = [some (.ref a), some (.ref p), some (.int kind), some (.int (s.firm.map V.str).length), some (.int at')] ∧ Keeps (fun z => z = j) c H c' H' ∧ DrawsAt K c' j H' a, ?_, ?_⟩
      · walk_at "v"
        refine ⟨c, j, a, 14, rfl, by omega, by omega, hj, hD2, ?_⟩
        intro v3 H3 x0 x1 k3 hD3
        walk_at "v"
        refine ite2 (fun d1 => ?_) (fun d1 => ?_)
        · walk_at "v"
          intro m0 hm0
          have k4 : Keeps (fun z => z = j) c H (cset c m0 (j + 1)) (upd H3 m0 (.lst [.int (-1), .int (s.firm.map V.str).length, .int ((s.firm.map V.str).length + 3)])) := ((k1.trans k2).trans k3).new hm0
          walk_at "v"
          refine ⟨cset c m0 (j + 1), j, a, 3, rfl, by omega, by omega, hj, hD3.keep (I := None') (keeps_new (q := j + 1) hm0) (fun z => z) (fun z => z), ?_⟩
          intro v4 H4 y0 y1 k5 hD4
          obtain ⟨z, _, hz⟩ := pick3 (x := -1) (y := (s.firm.map V.str).length) (z := (s.firm.map V.str).length + 3) y0 y1
          have hm4 := k5.at upd_same (by rw [cset_same]; omega)
          walk_at "v"
          exact ⟨z, _, rfl, k4.trans k5, hD4⟩
        · exact ⟨at0, c, rfl, (k1.trans k2).trans k3, hD3⟩
      · rintro σ' H' ⟨at', c', rfl, kp, hD'⟩
        have hO' := hO.keep kp hij (fun z => hj z.symm)
        walk_at "v"
        refine ite2 (fun d1 => ?_) (fun d1 => ?_)
        · walk_at "v"
          refine ⟨c', j, a, rfl, hj, hD', ?_⟩
          intro c2 H2 t ht k2 hD2
          walk_at "v"
          intro d hd
          refine k (cset c2 d 0) _ (.write at' t) d ht ((kp.trans k2).new hd) (hD2.keep (I := None') (keeps_new hd) (fun z => z) (fun z => z)) ?_
          exact .tup (TpAt.mk cset_same upd_same) (.cons (.str _) (.cons (.int _) (.cons (.str _) .nil)))
        · walk_at "v"
          refine ite2 (fun d2 => ?_) (fun d2 => ?_)
          · walk_at "v"
            intro d hd
            refine k (cset c' d 0) _ .sync d trivial (kp.new hd) (hD'.keep (I := None') (keeps_new hd) (fun z => z) (fun z => z)) ?_
            exact .tup (TpAt.mk cset_same upd_same) (.cons (.str _) .nil)
          · walk_at "v"
            refine ite2 (fun d3 => ?_) (fun d3 => ?_)
            · have hk : kind = 11 ∨ kind = 12 := by
                simp at d2 d3
                omega
              walk_at "v"
              intro m0 hm0
              rcases hk with rfl | rfl
              · walk_at "v"
                intro d hd
                refine k (cset (cset c' m0 0) d 0) _ (.read at') d trivial ((kp.new hm0).new hd) ((hD'.keep (I := None') (keeps_new (q := 0) hm0) (fun z => z) (fun z => z)).keep (I := None') (keeps_new hd) (fun z => z) (fun z => z)) ?_
                exact .tup (TpAt.mk cset_same upd_same) (.cons (.str _) (.cons (.int _) .nil))
              · walk_at "v"
                intro d hd
                refine k (cset (cset c' m0 0) d 0) _ (.safe at') d trivial ((kp.new hm0).new hd) ((hD'.keep (I := None') (keeps_new (q := 0) hm0) (fun z => z) (fun z => z)).keep (I := None') (keeps_new hd) (fun z => z) (fun z => z)) ?_
                exact .tup (TpAt.mk cset_same upd_same) (.cons (.str _) (.cons (.int _) .nil))
            · walk_at "v"
              refine ite2 (fun d4 => ?_) (fun d4 => ?_)
              · obtain ⟨lf', lr', lk', rows', g1, g2, g3, g4, g5, g6, g7, g8, g9⟩ := hO'.ex
                have hrl := rows_len g8
                walk_at "v"
                refine ⟨c', j, a, rows'.length, rfl, hj, by omega, by omega, hD', ?_⟩
                intro c2 H2 l ks hks k2 hD2 hl
                walk_at "v"
                intro d hd
                refine k (cset c2 d 0) _ (.fall ks) d hks ((kp.trans k2).new hd) (hD2.keep (I := None') (keeps_new hd) (fun z => z) (fun z => z)) ?_
                exact .tup (TpAt.mk cset_same upd_same) (.cons (.str _) (.cons (.lst (hl.keep (I := None') (keeps_new hd) (fun z => z)) (Iss.ints ks)) .nil))
              · walk_at "v"
                refine ite2 (fun d5 => ?_) (fun d5 => ?_)
                · walk_at "v"
                  intro m0 hm0
                  have k4 : Keeps (fun z => z = j) c H (cset c' m0 (j + 1)) (upd H' m0 (.lst [.int 1, .int 4, .int 9])) := kp.new hm0
                  walk_at "v"
                  refine ⟨cset c' m0 (j + 1), j, a, 3, rfl, by omega, by omega, hj, hD'.keep (I := None') (keeps_new (q := j + 1) hm0) (fun z => z) (fun z => z), ?_⟩
                  intro v4 H4 y0 y1 k5 hD4
                  obtain ⟨z, hz0, hz⟩ := pick3 (x := 1) (y := 4) (z := 9) y0 y1
                  have hm4 := k5.at upd_same (by rw [cset_same]; omega)
                  walk_at "v"
                  refine ⟨cset c' m0 (j + 1), j, a, z, rfl, by omega, by omega, hj, hD4, ?_⟩
                  intro n H5 u0 u1 k6 hD5
                  walk_at "v"
                  refine ⟨cset c' m0 (j + 1), j, a, 6, rfl, hj, by omega, by omega, hD5, ?_⟩
                  intro c2 H2 l ks hks k2 hD2 hl
                  walk_at "v"
                  intro d hd
                  refine k (cset c2 d 0) _ (.order n ks) d hks ((((k4.trans k5).trans k6).trans k2).new hd) (hD2.keep (I := None') (keeps_new hd) (fun z => z) (fun z => z)) ?_
                  exact .tup (TpAt.mk cset_same upd_same) (.cons (.str _) (.cons (.int _) (.cons (.lst (hl.keep (I := None') (keeps_new hd) (fun z => z)) (Iss.ints ks)) .nil)))
                · walk_at "v"
                  refine ⟨c', j, a, 384, rfl, by omega, by omega, hj, hD', ?_⟩
                  intro n H4 y0 y1 k5 hD4
                  walk_at "v"
                  refine ⟨c', j, a, 5, rfl, by omega, by omega, hj, hD4, ?_⟩
                  intro v5 H5 u0 u1 k6 hD5
                  obtain ⟨ch, hch⟩ := str_at (z := " az0~") (n := 5) (by decide +kernel) u0 u1
                  refine ⟨_, _, ch, rfl, rfl, by decide +kernel, hch, ?_⟩
                  walk_at "v"
                  intro d hd
                  refine k (cset c' d 0) _ (.spoil at' n ⟨#[ch]⟩) d ⟨y0, y1, rfl⟩ (((kp.trans k5).trans k6).new hd) (hD5.keep (I := None') (keeps_new hd) (fun z => z) (fun z => z)) ?_
                  exact .tup (TpAt.mk cset_same upd_same) (.cons (.str _) (.cons (.int _) (.cons (.int _) (.cons (.str _) .nil))))
end



open PySem L2


/-- data without dicts, no deeper than n -/
inductive Fl : Nat → D → Prop
  | non {n : Nat} : Fl (n + 1) .non
  | bl {n : Nat} (b : Bool) : Fl (n + 1) (.bl b)
  | int {n : Nat} (i : Int) : Fl (n + 1) (.int i)
  | str {n : Nat} (s : Str) : Fl (n + 1) (.str s)
  | lst {n : Nat} {ds : List D} (h : ds.length ≤ 100000) (r : ∀ d ∈ ds, Fl n d) : Fl (n + 1) (.lst ds)
  | tup {n : Nat} {ds : List D} (h : ds.length ≤ 100000) (r : ∀ d ∈ ds, Fl n d) : Fl (n + 1) (.tup ds)
theorem fl0 {d : D} (h : Fl 0 d) : False := by cases h
/-- the copies of the first i parts, in the new list at m -/
def Cp (g : Nat) (c : Col) (H : Hp) (m : Addr) (ds : List D) (i : Nat) (Hx : Hp) : Prop :=
  ∃ (cx : Col) (us : List V), cx m = g + 1 ∧ Keeps None' c H cx Hx ∧ Hx m = some (.lst us) ∧ Iss ([] : PySem.W.Frag) g cx Hx (ds.take i) us
theorem take_one {α : Type} {xs : List α} {i : Nat} {x : α} (h : xs[i]? = some x) : xs.take (i + 1) = xs.take i ++ [x] := by
  rw [List.take_add_one, h]
  rfl
theorem Cp.step {g : Nat} {c : Col} {H : Hp} {m : Addr} {ds : List D} {i : Nat} {Hx : Hp} {d : D} {cx : Col} {us : List V} (hm : H m = none) (e : ds[i]? = some d) (h1 : cx m = g + 1) (h2 : Keeps None' c H cx Hx) (h3 : Hx m = some (.lst us)) (h4 : Iss ([] : PySem.W.Frag) g cx Hx (ds.take i) us)
    {c2 : Col} {H2 : Hp} {r : V} (k2 : Keeps None' cx Hx c2 H2) (hr : Is ([] : PySem.W.Frag) g c2 H2 d r) : H2 m = some (.lst us) ∧ Cp g c H m ds (i + 1) (upd H2 m (.lst (us ++ [r]))) := by
  have c2m : c2 m = g + 1 := by rw [k2.col _ _ h3]; exact h1
  refine ⟨k2.keep _ _ h3 (fun z => z), c2, us ++ [r], c2m, (h2.trans k2).own hm, upd_same, ?_⟩
  rw [take_one e]
  exact Iss.app ((h4.keep k2 (fun z => z)).put (by omega)) (Iss.one (hr.put (by omega)))
section
variable {P : Program} {w : World} {K : PySem.W.Frag} {mg : Str → Option Value} {base : Heap} {f CD CR CF fI : Addr} {fd : FuncData}
def spCopy (K : PySem.W.Frag) (n : Nat) : Sp := fun vs H Q _ => ∃ (c : Col) (g k0 : Nat) (d : D) (v : V), vs = [v] ∧ Fl n d ∧ Is K k0 c H d v ∧ ∀ (c' : Col) (H' : Hp) (r : V), Keeps None' c H c' H' → Is ([] : PySem.W.Frag) g c' H' d r → Q r H'
theorem ok_copy0 (F : FnP K "_law_copy" s__law_copy f fd) (m : mg "_law_copy" = some (.ref f)) (b : Binds K fd ["thing"] []) : DefOk P w K mg base CX0 1 "_law_copy" ["thing"] (spCopy K 0) := by
  refine mk_def F m b sc__law_copy (fun vs H Q E h => ?_) (fun cdv A outer s H vs Q E hr h => ?_)
  · obtain ⟨c, g, k0, d, v, rfl, _⟩ := h
    rfl
  · obtain ⟨c, g, k0, d, v, rfl, h0, _⟩ := h
    exact (fl0 h0).elim
theorem ok_copyS {n : Nat} (F : FnP K "_law_copy" s__law_copy f fd) (m : mg "_law_copy" = some (.ref f)) (b : Binds K fd ["thing"] []) (T : Blt mg) (G__law_copy : DefOk P w K mg base CX0 (n + 1) "_law_copy" ["thing"] (spCopy K n)) :
    DefOk P w K mg base CX0 (n + 2) "_law_copy" ["thing"] (spCopy K (n + 1)) := by
  refine mk_def F m b sc__law_copy (fun vs H Q E h => ?_) (fun cdv A outer s H vs Q E hr h => ?_)
  · obtain ⟨c, g, k0, d, v, rfl, _⟩ := h
    rfl
  · obtain ⟨c, g, k0, d, v, rfl, hf, hv, k⟩ := h
    refine' ⟨_, PSs.nox ?der, ?rd⟩
    case der => exact
        (pss_cons (ps_if (pt_val (pe_callB (call_isi' (K := K)) (by rfl) T.isinstance (by decide +kernel) (pa_cons (pv 0) (pa_cons (pe_bltn (v := .ty "list") (u := .type "list") (by rfl) T.list (by decide +kernel) rfl) pa_nil))))
          (pss_one (ps_ret (pe_lc (own := [("part", 1)]) rfl sc__law_copy.nd (pi_list' (K := K) (pv 0)) (blkOk_by (own := [("part", 1)]) (N := ["thing", "part", "found", "key"]) (sc := (defScope s__law_copy)) (by decide +kernel)) (fun _ _ _ _ _ => (pg_name (i := 1) sc__law_copy.nd rfl (by first | exact Or.inl rfl | exact Or.inr rfl))) (fun _ _ _ _ _ => pts_nil) (fun _ _ _ _ _ => (pe_D G__law_copy (hr.mono (by omega)) (pa_cons (pv 1) pa_nil))))))
          pss_nil)
         (pss_cons (ps_if (pt_val (pe_callB (call_isi' (K := K)) (by rfl) T.isinstance (by decide +kernel) (pa_cons (pv 0) (pa_cons (pe_bltn (v := .ty "tuple") (u := .type "tuple") (by rfl) T.tuple (by decide +kernel) rfl) pa_nil))))
          (pss_one (ps_ret (pe_callTy (call_tuple_of' (K := K)) (by rfl) T.tuple (by decide +kernel) (pa_cons (pe_lc (own := [("part", 1)]) rfl sc__law_copy.nd (pi_tup' (K := K) (pv 0)) (blkOk_by (own := [("part", 1)]) (N := ["thing", "part", "found", "key"]) (sc := (defScope s__law_copy)) (by decide +kernel)) (fun _ _ _ _ _ => (pg_name (i := 1) sc__law_copy.nd rfl (by first | exact Or.inl rfl | exact Or.inr rfl))) (fun _ _ _ _ _ => pts_nil) (fun _ _ _ _ _ => (pe_D G__law_copy (hr.mono (by omega)) (pa_cons (pv 1) pa_nil)))) pa_nil))))
          pss_nil)
         (pss_cons (ps_if (pt_val (pe_callB (call_isi' (K := K)) (by rfl) T.isinstance (by decide +kernel) (pa_cons (pv 0) (pa_cons (pe_bltn (v := .ty "dict") (u := .type "dict") (by rfl) T.dict (by decide +kernel) rfl) pa_nil))))
          (pss_cons ps_never
         (pss_cons ps_never
         (pss_one ps_never)))
          pss_nil)
         (pss_one (ps_ret (pv 0))))))
    case rd =>
      cases hf with
      | non =>
        cases hv
        walk_at "v"
        exact k c H _ Keeps.refl .non
      | bl x =>
        cases hv
        walk_at "v"
        exact k c H _ Keeps.refl (.bl x)
      | int x =>
        cases hv
        walk_at "v"
        exact k c H _ Keeps.refl (.int x)
      | str x =>
        cases hv
        walk_at "v"
        exact k c H _ Keeps.refl (.str x)
      | @lst _ ds hz hr =>
        cases hv with
        | @lst a _ vs ha hi =>
        have hlen := Iss.len hi
        have hlv : vs.length ≤ 100000 := by omega
        walk_at "v"
        intro m0 hm0
        refine lc_list (xs := vs) (fun i Hx => Cp g c H m0 ds i Hx) ?_ (fun i Hx _ ⟨cx, us, q1, q2, q3, q4⟩ => (ha.keep q2 (fun z => z)).sq) ?_ ?_
        · exact ⟨cset c m0 (g + 1), [], cset_same, keeps_new hm0, upd_same, .nil⟩
        · rintro i x Hx hx ⟨cx, us, q1, q2, q3, q4⟩
          obtain ⟨d, hd, hdx⟩ := Iss.getV (hi.keep q2 (fun z => z)) hx
          have hul := Iss.len q4
          have hls : us.length < sizeLine := by
            have := szL
            rw [List.length_take] at hul
            omega
          walk_at "v"
          refine ⟨cx, g, k0, d, x, rfl, hr _ (List.mem_of_getElem? hd), hdx, ?_⟩
          intro c2 H2 r k2 hr2
          obtain ⟨e1, e2⟩ := Cp.step hm0 hd q1 q2 q3 q4 k2 hr2
          exact ⟨us, e1, hls, e2⟩
        · rintro Hx ⟨cx, us, q1, q2, q3, q4⟩
          rw [← hlen, List.take_length] at q4
          walk_at "v"
          exact k (cset cx m0 g) Hx _ (q2.recol hm0) (.lst (LsAt.mk cset_same q3) q4.recol)
      | @tup _ ds hz hr =>
        cases hv with
        | @tup a _ vs ha hi =>
        have hlen := Iss.len hi
        have hlv : vs.length ≤ 100000 := by omega
        walk_at "v"
        intro m0 hm0
        refine lc_tup (xs := vs) (fun i Hx => Cp g c H m0 ds i Hx) ?_ (fun i Hx _ ⟨cx, us, q1, q2, q3, q4⟩ => (ha.keep q2 (fun z => z)).sq) ?_ ?_
        · exact ⟨cset c m0 (g + 1), [], cset_same, keeps_new hm0, upd_same, .nil⟩
        · rintro i x Hx hx ⟨cx, us, q1, q2, q3, q4⟩
          obtain ⟨d, hd, hdx⟩ := Iss.getV (hi.keep q2 (fun z => z)) hx
          have hul := Iss.len q4
          have hls : us.length < sizeLine := by
            have := szL
            rw [List.length_take] at hul
            omega
          walk_at "v"
          refine ⟨cx, g, k0, d, x, rfl, hr _ (List.mem_of_getElem? hd), hdx, ?_⟩
          intro c2 H2 r k2 hr2
          obtain ⟨e1, e2⟩ := Cp.step hm0 hd q1 q2 q3 q4 k2 hr2
          exact ⟨us, e1, hls, e2⟩
        · rintro Hx ⟨cx, us, q1, q2, q3, q4⟩
          rw [← hlen, List.take_length] at q4
          walk_at "v"
          intro t0 ht0
          exact k (cset cx t0 g) _ _ (q2.new ht0) (.tup (TpAt.mk cset_same upd_same) (q4.new ht0))
end



open PySem L2


section
variable {P : Program} {w : World} {K : PySem.W.Frag} {mg : Str → Option Value} {base : Heap} {f CD CR CF fI : Addr} {fd : FuncData}
def spSame (K : PySem.W.Frag) (n : Nat) : Sp := fun vs H Q _ => ∃ (c : Col) (k1 k2 : Nat) (d : D) (x y : V), vs = [x, y] ∧ Fl n d ∧ Is K k1 c H d x ∧ Is K k2 c H d y ∧ ∀ (c' : Col) (H' : Hp), Keeps None' c H c' H' → Q (.bl true) H'
theorem ok_same0 (F : FnP K "_law_same" s__law_same f fd) (m : mg "_law_same" = some (.ref f)) (b : Binds K fd ["x", "due"] []) : DefOk P w K mg base CX0 1 "_law_same" ["x", "due"] (spSame K 0) := by
  refine mk_def F m b sc__law_same (fun vs H Q E h => ?_) (fun cdv A outer s H vs Q E hr h => ?_)
  · obtain ⟨c, k1, k2, d, x, y, rfl, _⟩ := h
    rfl
  · obtain ⟨c, k1, k2, d, x, y, rfl, h0, _⟩ := h
    exact (fl0 h0).elim
theorem ok_sameS {n : Nat} (F : FnP K "_law_same" s__law_same f fd) (m : mg "_law_same" = some (.ref f)) (b : Binds K fd ["x", "due"] []) (T : Blt mg) (G__law_same : DefOk P w K mg base CX0 (n + 1) "_law_same" ["x", "due"] (spSame K n)) :
    DefOk P w K mg base CX0 (n + 2) "_law_same" ["x", "due"] (spSame K (n + 1)) := by
  refine mk_def F m b sc__law_same (fun vs H Q E h => ?_) (fun cdv A outer s H vs Q E hr h => ?_)
  · obtain ⟨c, k1, k2, d, x, y, rfl, _⟩ := h
    rfl
  · obtain ⟨c, k1, k2, d, x, y, rfl, hf, hx, hy, k⟩ := h
    refine' ⟨_, PSs.nox ?der, ?rd⟩
    case der => exact
        (pss_cons (ps_if (pt_cmpR op_isN (pv 1) pe_non (nomark _))
          (pss_one (ps_ret (pe_cmpR op_isN (pv 0) pe_non (nomark _))))
          pss_nil)
         (pss_cons (ps_if (pt_val (pe_callB (call_isi' (K := K)) (by rfl) T.isinstance (by decide +kernel) (pa_cons (pv 1) (pa_cons (pe_bltn (v := .ty "bool") (u := .type "bool") (by rfl) T.bool (by decide +kernel) rfl) pa_nil))))
          (pss_one (ps_ret (pe_and (pe_callB (call_isi' (K := K)) (by rfl) T.isinstance (by decide +kernel) (pa_cons (pv 0) (pa_cons (pe_bltn (v := .ty "bool") (u := .type "bool") (by rfl) T.bool (by decide +kernel) rfl) pa_nil))) (pe_one (pe_cmpR op_eq (pv 0) (pv 1) (nomark _))))))
          pss_nil)
         (pss_cons (ps_if (pt_val (pe_callB (call_isi' (K := K)) (by rfl) T.isinstance (by decide +kernel) (pa_cons (pv 1) (pa_cons (pe_bltn (v := .ty "int") (u := .type "int") (by rfl) T.int (by decide +kernel) rfl) pa_nil))))
          (pss_one (ps_ret (pe_and (pe_callB (call_isi' (K := K)) (by rfl) T.isinstance (by decide +kernel) (pa_cons (pv 0) (pa_cons (pe_bltn (v := .ty "int") (u := .type "int") (by rfl) T.int (by decide +kernel) rfl) pa_nil))) (pe_and (pe_not (pe_callB (call_isi' (K := K)) (by rfl) T.isinstance (by decide +kernel) (pa_cons (pv 0) (pa_cons (pe_bltn (v := .ty "bool") (u := .type "bool") (by rfl) T.bool (by decide +kernel) rfl) pa_nil)))) (pe_one (pe_cmpR op_eq (pv 0) (pv 1) (nomark _)))))))
          pss_nil)
         (pss_cons (ps_if (pt_val (pe_callB (call_isi' (K := K)) (by rfl) T.isinstance (by decide +kernel) (pa_cons (pv 1) (pa_cons (pe_bltn (v := .ty "str") (u := .type "str") (by rfl) T.str (by decide +kernel) rfl) pa_nil))))
          (pss_one (ps_ret (pe_and (pe_callB (call_isi' (K := K)) (by rfl) T.isinstance (by decide +kernel) (pa_cons (pv 0) (pa_cons (pe_bltn (v := .ty "str") (u := .type "str") (by rfl) T.str (by decide +kernel) rfl) pa_nil))) (pe_one (pe_cmpR op_eq (pv 0) (pv 1) (nomark _))))))
          pss_nil)
         (pss_cons (ps_if (pt_val (pe_callB (call_isi' (K := K)) (by rfl) T.isinstance (by decide +kernel) (pa_cons (pv 1) (pa_cons (pe_bltn (v := .ty "dict") (u := .type "dict") (by rfl) T.dict (by decide +kernel) rfl) pa_nil))))
          (pss_cons ps_never
         (pss_one ps_never))
          pss_nil)
         (pss_cons (ps_if (pt_val (pe_callB (call_isi' (K := K)) (by rfl) T.isinstance (by decide +kernel) (pa_cons (pv 1) (pa_cons (pe_bltn (v := .ty "list") (u := .type "list") (by rfl) T.list (by decide +kernel) rfl) pa_nil))))
          (pss_one (ps_set (i := 3) sc__law_same.nd rfl (by first | exact Or.inl rfl | exact Or.inr rfl) (pe_callB (call_isi' (K := K)) (by rfl) T.isinstance (by decide +kernel) (pa_cons (pv 0) (pa_cons (pe_bltn (v := .ty "list") (u := .type "list") (by rfl) T.list (by decide +kernel) rfl) pa_nil)))))
          (pss_one (ps_set (i := 3) sc__law_same.nd rfl (by first | exact Or.inl rfl | exact Or.inr rfl) (pe_callB (call_isi' (K := K)) (by rfl) T.isinstance (by decide +kernel) (pa_cons (pv 0) (pa_cons (pe_bltn (v := .ty "tuple") (u := .type "tuple") (by rfl) T.tuple (by decide +kernel) rfl) pa_nil))))))
         (pss_one (ps_ret (pe_and (pv 3) (pe_and (pe_cmpR op_eq (pe_callB (call_len_seq' (K := K)) (by rfl) T.len (by decide +kernel) (pa_cons (pv 0) pa_nil)) (pe_callB (call_len_seq' (K := K)) (by rfl) T.len (by decide +kernel) (pa_cons (pv 1) pa_nil)) (nomark _)) (pe_one (pe_callB (cr_all' (K := K) rfl) (by rfl) T.all (by decide +kernel) (pa_cons (pe_lc (own := [("at", 4)]) rfl sc__law_same.nd (pi_range1 (by rfl) T.range (pa_cons (pe_callB (call_len_seq' (K := K)) (by rfl) T.len (by decide +kernel) (pa_cons (pv 1) pa_nil)) pa_nil)) (blkOk_by (own := [("at", 4)]) (N := ["x", "due", "key", "right", "at"]) (sc := (defScope s__law_same)) (by decide +kernel)) (fun _ _ _ _ _ => (pg_name (i := 4) sc__law_same.nd rfl (by first | exact Or.inl rfl | exact Or.inr rfl))) (fun _ _ _ _ _ => pts_nil) (fun _ _ _ _ _ => (pe_D G__law_same (hr.mono (by omega)) (pa_cons (pe_ix (ix_seq' (K := K)) (pv 0) (pv 4) (fun _ _ => rfl)) (pa_cons (pe_ix (ix_seq' (K := K)) (pv 1) (pv 4) (fun _ _ => rfl)) pa_nil))))) pa_nil)))))))))))))
    case rd =>
      cases hf with
      | non =>
        cases hx
        cases hy
        walk_at "v"
        first
          | exact k c H Keeps.refl
          | (rw [decide_eq_true rfl]; exact k c H Keeps.refl)
      | bl x =>
        cases hx
        cases hy
        walk_at "v"
        first
          | exact k c H Keeps.refl
          | (rw [decide_eq_true rfl]; exact k c H Keeps.refl)
      | int x =>
        cases hx
        cases hy
        walk_at "v"
        first
          | exact k c H Keeps.refl
          | (rw [decide_eq_true rfl]; exact k c H Keeps.refl)
      | str x =>
        cases hx
        cases hy
        walk_at "v"
        first
          | exact k c H Keeps.refl
          | (rw [decide_eq_true rfl]; exact k c H Keeps.refl)
      | @lst _ ds hz hr =>
        cases hx with
        | @lst a _ vs ha hi =>
        cases hy with
        | @lst a2 _ vs2 ha2 hi2 =>
        walk_at "v"
        have hlen := Iss.len hi
        have hlen2 := Iss.len hi2
        refine iteT (decide_eq_true (by rw [← hlen, ← hlen2])) ?_
        have hlv : vs2.length ≤ 100000 := by omega
        walk_at "v"
        rw [Int.toNat_natCast]
        intro m0 hm0
        refine lc_range (fun i Hx => ∃ cx : Col, Keeps None' c H cx Hx ∧ Hx m0 = some (.lst (List.replicate i (.bl true)))) ?_ ?_ ?_
        · exact ⟨cset c m0 0, keeps_new hm0, upd_same⟩
        · rintro i Hx hi0 ⟨cx, q1, q2⟩
          have hj1 : i < vs.length := by omega
          have e1 : atI vs (0 + (i : Int)) = some vs[i] := at_i (by omega) (by rw [show (0 + (i : Int)).toNat = i by omega]; exact List.getElem?_eq_getElem hj1)
          have e2 : atI vs2 (0 + (i : Int)) = some vs2[i] := at_i (by omega) (by rw [show (0 + (i : Int)).toNat = i by omega]; exact List.getElem?_eq_getElem hi0)
          obtain ⟨d, hd, hdx⟩ := Iss.getV (hi.keep q1 (fun z => z)) (List.getElem?_eq_getElem hj1)
          obtain ⟨d2, hd2, hdy⟩ := Iss.getV (hi2.keep q1 (fun z => z)) (List.getElem?_eq_getElem hi0)
          have ed : d2 = d := by
            rw [hd] at hd2
            exact (Option.some.inj hd2).symm
          subst ed
          have sa := (ha.keep q1 (fun z => z)).sq
          have sa2 := (ha2.keep q1 (fun z => z)).sq
          generalize vs[i] = x0 at e1 hdx
          generalize vs2[i] = y0 at e2 hdy
          walk_at "v"
          refine ⟨cx, k1, k2, d2, x0, y0, rfl, hr _ (List.mem_of_getElem? hd), hdx, hdy, ?_⟩
          intro c2 H2 kk
          have hls : (List.replicate i (V.bl true)).length < sizeLine := by
            have := szL
            rw [List.length_replicate]
            omega
          refine ⟨_, kk.keep _ _ q2 (fun z => z), hls, c2, (q1.trans kk).own hm0, ?_⟩
          rw [upd_same, List.replicate_succ']
        · rintro Hx ⟨cx, q1, q2⟩
          walk_at "v"
          refine ⟨m0, List.replicate vs2.length true, rfl, SqL.of (by rw [q2, List.map_replicate]), ?_⟩
          have e : (List.replicate vs2.length true).all id = true := by simp
          rw [e]
          exact k cx Hx q1
      | @tup _ ds hz hr =>
        cases hx with
        | @tup a _ vs ha hi =>
        cases hy with
        | @tup a2 _ vs2 ha2 hi2 =>
        walk_at "v"
        have hlen := Iss.len hi
        have hlen2 := Iss.len hi2
        refine iteT (decide_eq_true (by rw [← hlen, ← hlen2])) ?_
        have hlv : vs2.length ≤ 100000 := by omega
        walk_at "v"
        rw [Int.toNat_natCast]
        intro m0 hm0
        refine lc_range (fun i Hx => ∃ cx : Col, Keeps None' c H cx Hx ∧ Hx m0 = some (.lst (List.replicate i (.bl true)))) ?_ ?_ ?_
        · exact ⟨cset c m0 0, keeps_new hm0, upd_same⟩
        · rintro i Hx hi0 ⟨cx, q1, q2⟩
          have hj1 : i < vs.length := by omega
          have e1 : atI vs (0 + (i : Int)) = some vs[i] := at_i (by omega) (by rw [show (0 + (i : Int)).toNat = i by omega]; exact List.getElem?_eq_getElem hj1)
          have e2 : atI vs2 (0 + (i : Int)) = some vs2[i] := at_i (by omega) (by rw [show (0 + (i : Int)).toNat = i by omega]; exact List.getElem?_eq_getElem hi0)
          obtain ⟨d, hd, hdx⟩ := Iss.getV (hi.keep q1 (fun z => z)) (List.getElem?_eq_getElem hj1)
          obtain ⟨d2, hd2, hdy⟩ := Iss.getV (hi2.keep q1 (fun z => z)) (List.getElem?_eq_getElem hi0)
          have ed : d2 = d := by
            rw [hd] at hd2
            exact (Option.some.inj hd2).symm
          subst ed
          have sa := (ha.keep q1 (fun z => z)).sq
          have sa2 := (ha2.keep q1 (fun z => z)).sq
          generalize vs[i] = x0 at e1 hdx
          generalize vs2[i] = y0 at e2 hdy
          walk_at "v"
          refine ⟨cx, k1, k2, d2, x0, y0, rfl, hr _ (List.mem_of_getElem? hd), hdx, hdy, ?_⟩
          intro c2 H2 kk
          have hls : (List.replicate i (V.bl true)).length < sizeLine := by
            have := szL
            rw [List.length_replicate]
            omega
          refine ⟨_, kk.keep _ _ q2 (fun z => z), hls, c2, (q1.trans kk).own hm0, ?_⟩
          rw [upd_same, List.replicate_succ']
        · rintro Hx ⟨cx, q1, q2⟩
          walk_at "v"
          refine ⟨m0, List.replicate vs2.length true, rfl, SqL.of (by rw [q2, List.map_replicate]), ?_⟩
          have e : (List.replicate vs2.length true).all id = true := by simp
          rw [e]
          exact k cx Hx q1
end



open PySem L2


theorem dk_tup {K : PySem.W.Frag} {c c2 : Col} {i : Nat} {H H2 : Hp} {CD p d : Addr} {s : Dk} {ds : List D} {vs : List V} (kp : Keeps (fun z => z = i) c H c2 H2) (hD : DkAt K c2 i H2 CD p s) (hd : H2 d = none) (hr : Iss K 0 c2 H2 ds vs) :
    Keeps (fun z => z = i) c H (cset c2 d 0) (upd H2 d (.tup vs)) ∧ DkAt K (cset c2 d 0) i (upd H2 d (.tup vs)) CD p s ∧ Is K 0 (cset c2 d 0) (upd H2 d (.tup vs)) (.tup ds) (.ref d) :=
  ⟨kp.new hd, hD.keep (I := None') (keeps_new hd) (fun z => z) (fun z => z), .tup (TpAt.mk cset_same upd_same) (hr.new hd)⟩
section
variable {P : Program} {w : World} {K : PySem.W.Frag} {mg : Str → Option Value} {base : Heap} {f CD CR CF fI : Addr} {fd : FuncData}
def spCalled (K : PySem.W.Frag) (CD : Addr) : Sp := fun vs H Q _ => ∃ (c : Col) (i g : Nat) (p q : Addr) (s : Dk) (call : Call), vs = [.ref p, .ref q] ∧ DkAt K c i H CD p s ∧ Wf s ∧ i ≠ 0 ∧ g ≠ i ∧ s.fresh.length ≤ 100000 ∧ call.ok ∧ Is K g c H call.d (.ref q) ∧
  ∀ c' H' r, Keeps (fun z => z = i) c H c' H' → DkAt K c' i H' CD p (tellC s call).2 → Is K 0 c' H' (tellC s call).1 r → Q r H'
theorem ok_called (F : FnP K "_law_disk_called" s__law_disk_called f fd) (m : mg "_law_disk_called" = some (.ref f)) (b : Binds K fd ["disk", "call"] []) (T : T83 P K mg CD CR CF fI)
    (G_Disk_write : MethOk P w K mg base (CXr P w) 7 CD "write" ["self", "at", "text"] (spWrite K CD CR CF))
    (G_Disk_read : MethOk P w K mg base (CXr P w) 6 CD "read" ["self", "at"] (spRead K CD CR CF))
    (G_Disk_safe : MethOk P w K mg base (CXr P w) 6 CD "safe" ["self", "at"] (spSafe K CD CR CF))
    (G_Disk_sync : MethOk P w K mg base (CXr P w) 7 CD "sync" ["self"] (spSync K CD CR CF))
    (G_Disk_fall : MethOk P w K mg base CX0 1 CD "fall" ["self", "keeps"] (spFall K CD CR CF))
    (G_Disk_order : MethOk P w K mg base CX0 1 CD "order" ["self", "moves", "keeps"] (spOrder K CD CR CF))
    (G_Disk_spoil : MethOk P w K mg base (CXr P w) 6 CD "spoil" ["self", "at", "place", "sign"] (spSpoil K CD CR CF)) :
    DefOk P w K mg base CX0 8 "_law_disk_called" ["disk", "call"] (spCalled K CD) := by
  refine mk_def F m b sc__law_disk_called (fun vs H Q E h => ?_) (fun cdv A outer s H vs Q E hr h => ?_)
  · obtain ⟨c, i, g, p, q, s, call, rfl, _⟩ := h
    rfl
  · obtain ⟨c, i, g, p, q, s, call, rfl, hD, hW, hi, hg, hfr, hok, hC, k⟩ := h
    obtain ⟨dx, lf, lr, lk, rows, h1, h2, h3, h4, h5, h6, h7, h8, h9⟩ := hD.ex
    have gR := T.gR
    have gF := T.gF
    have xfR := T.xfR
    have xnR := T.xnR
    have mRR := T.mRR
    have mFR := T.mFR
    have mFF := T.mFF
    refine' ⟨_, PSs.nox ?der, ?rd⟩
    case der => exact
        (pss_one (ps_try_any rfl rfl sc__law_disk_called.nd takes0 (fun W pn xe tk po =>
           (pss_cons (ps_if (pt_cmpR op_eq (pe_ix (ix_tup' (K := K)) (pv 1) pe_int (fun _ _ => rfl)) pe_str (nomark _))
          (pss_one (ps_ret (pe_tup (pa_cons pe_str (pa_cons (pe_Mx G_Disk_write (hr.mono (by omega)) tk T.cl (pv 0) (pa_cons (pe_ix (ix_tup' (K := K)) (pv 1) pe_int (fun _ _ => rfl)) (pa_cons (pe_ix (ix_tup' (K := K)) (pv 1) pe_int (fun _ _ => rfl)) pa_nil))) pa_nil)))))
          pss_nil)
         (pss_cons (ps_if (pt_cmpR op_eq (pe_ix (ix_tup' (K := K)) (pv 1) pe_int (fun _ _ => rfl)) pe_str (nomark _))
          (pss_one (ps_ret (pe_tup (pa_cons pe_str (pa_cons (pe_Mx G_Disk_read (hr.mono (by omega)) tk T.cl (pv 0) (pa_cons (pe_ix (ix_tup' (K := K)) (pv 1) pe_int (fun _ _ => rfl)) pa_nil)) pa_nil)))))
          pss_nil)
         (pss_cons (ps_if (pt_cmpR op_eq (pe_ix (ix_tup' (K := K)) (pv 1) pe_int (fun _ _ => rfl)) pe_str (nomark _))
          (pss_one (ps_ret (pe_tup (pa_cons pe_str (pa_cons (pe_Mx G_Disk_safe (hr.mono (by omega)) tk T.cl (pv 0) (pa_cons (pe_ix (ix_tup' (K := K)) (pv 1) pe_int (fun _ _ => rfl)) pa_nil)) pa_nil)))))
          pss_nil)
         (pss_cons (ps_if (pt_cmpR op_eq (pe_ix (ix_tup' (K := K)) (pv 1) pe_int (fun _ _ => rfl)) pe_str (nomark _))
          (pss_one (ps_ret (pe_tup (pa_cons pe_str (pa_cons (pe_Mx0 G_Disk_sync (hr.mono (by omega)) tk T.cl (pv 0)) pa_nil)))))
          pss_nil)
         (pss_cons (ps_if (pt_cmpR op_eq (pe_ix (ix_tup' (K := K)) (pv 1) pe_int (fun _ _ => rfl)) pe_str (nomark _))
          (pss_one (ps_ret (pe_tup (pa_cons pe_str (pa_cons (pe_M G_Disk_fall (hr.mono (by omega)) T.cl (pv 0) (pa_cons (pe_ix (ix_tup' (K := K)) (pv 1) pe_int (fun _ _ => rfl)) pa_nil)) pa_nil)))))
          pss_nil)
         (pss_cons (ps_if (pt_cmpR op_eq (pe_ix (ix_tup' (K := K)) (pv 1) pe_int (fun _ _ => rfl)) pe_str (nomark _))
          (pss_one (ps_ret (pe_tup (pa_cons pe_str (pa_cons (pe_M G_Disk_order (hr.mono (by omega)) T.cl (pv 0) (pa_cons (pe_ix (ix_tup' (K := K)) (pv 1) pe_int (fun _ _ => rfl)) (pa_cons (pe_ix (ix_tup' (K := K)) (pv 1) pe_int (fun _ _ => rfl)) pa_nil))) pa_nil)))))
          pss_nil)
         (pss_one (ps_ret (pe_tup (pa_cons pe_str (pa_cons (pe_Mx G_Disk_spoil (hr.mono (by omega)) tk T.cl (pv 0) (pa_cons (pe_ix (ix_tup' (K := K)) (pv 1) pe_int (fun _ _ => rfl)) (pa_cons (pe_ix (ix_tup' (K := K)) (pv 1) pe_int (fun _ _ => rfl)) (pa_cons (pe_ix (ix_tup' (K := K)) (pv 1) pe_int (fun _ _ => rfl)) pa_nil)))) pa_nil))))))))))))
           (HdA.consAs (i := 2) rfl rfl ⟨rfl, by decide, .inl gR⟩ (fun a oe cls dd pn hz hf => (pss_one (ps_ret (pe_tup (pa_cons pe_str (pa_cons (pe_xf xfR xnR hz hf (pv 2)) pa_nil)))))) (HdA.cons ⟨rfl, by decide, .inl gF⟩ (fun a oe cls dd pn hz hf => (pss_one (ps_ret (pe_tup (pa_cons pe_str (pa_cons pe_non pa_nil)))))) HdA.nil))))
    case rd =>
      have hC2 := call_get hC
      cases call with
      | write a t =>
        have hC3 : TpAt K g c H q [.str "write", .int a, .str t] := hC2
        walk_at "v"
        refine ⟨c, i, p, s, a, t, rfl, hD, hW, hi, Nat.le_trans hok (by decide), hfr, ?_⟩
        have htl : tellC s (.write a t) = if inB s a && decide (t.length ≤ 384) then (if movedB (pushD s a t) then dFallen else dTold .non, movedD (pushD s a t)) else (dRec a, s) := rfl
        rw [htl] at k
        cases hb : inB s a && decide (t.length ≤ 384) with
        | false =>
          rw [hb] at k
          intro c' H' d kp hD' hd
          refine ⟨true, mRR, fun _ x hx => ?_, fun z => by cases z⟩
          walk_at "v"
          intro r hr
          obtain ⟨e1, e2, e3⟩ := dk_tup kp hD' hr (ds := [.str "record", .int a]) (.cons (.str _) (.cons (.int _) .nil))
          exact k _ _ _ e1 e2 e3
        | true =>
          rw [hb] at k
          rw [if_pos rfl] at k
          rw [if_pos rfl]
          cases hm : movedB (pushD s a t) with
          | true =>
            rw [hm] at k
            intro c' H' kp hD'
            refine ⟨false, mFR, (fun z => by cases z), fun _ => ⟨true, mFF, fun _ x hx => ?_, fun z => by cases z⟩⟩
            walk_at "v"
            intro r hr
            obtain ⟨e1, e2, e3⟩ := dk_tup kp hD' hr (ds := [.str "fallen", .non]) (.cons (.str _) (.cons .non .nil))
            exact k _ _ _ e1 e2 e3
          | false =>
            rw [hm] at k
            intro c' H' kp hD'
            walk_at "v"
            intro r hr
            obtain ⟨e1, e2, e3⟩ := dk_tup kp hD' hr (ds := [.str "told", .non]) (.cons (.str _) (.cons .non .nil))
            exact k _ _ _ e1 e2 e3
      | sync =>
        have hC3 : TpAt K g c H q [.str "sync"] := hC2
        walk_at "v"
        refine ⟨c, i, p, s, rfl, hD, hW, hi, ?_⟩
        have htl : tellC s .sync = (if movedB s then (dFallen, movedD s) else (dTold .non, safeD (movedD s))) := rfl
        rw [htl] at k
        cases hm : movedB s with
        | true =>
          rw [hm] at k
          rw [if_pos rfl] at k
          intro c' H' kp hD'
          refine ⟨false, mFR, (fun z => by cases z), fun _ => ⟨true, mFF, fun _ x hx => ?_, fun z => by cases z⟩⟩
          walk_at "v"
          intro r hr
          obtain ⟨e1, e2, e3⟩ := dk_tup kp hD' hr (ds := [.str "fallen", .non]) (.cons (.str _) (.cons .non .nil))
          exact k _ _ _ e1 e2 e3
        | false =>
          rw [hm] at k
          intro c' H' kp hD'
          walk_at "v"
          intro r hr
          obtain ⟨e1, e2, e3⟩ := dk_tup kp hD' hr (ds := [.str "told", .non]) (.cons (.str _) (.cons .non .nil))
          exact k _ _ _ e1 e2 e3
      | read a =>
        have hC3 : TpAt K g c H q [.str "read", .int a] := hC2
        walk_at "v"
        refine ⟨c, i, p, s, a, rfl, hD, hi, ?_⟩
        have htl : tellC s (.read a) = if inB s a then (dTold (.str (readD s a)), s) else (dRec a, s) := rfl
        rw [htl] at k
        cases hb : inB s a with
        | false =>
          rw [hb] at k
          intro c' H' d kp hD' hd
          refine ⟨true, mRR, fun _ x hx => ?_, fun z => by cases z⟩
          walk_at "v"
          intro r hr
          obtain ⟨e1, e2, e3⟩ := dk_tup kp hD' hr (ds := [.str "record", .int a]) (.cons (.str _) (.cons (.int _) .nil))
          exact k _ _ _ e1 e2 e3
        | true =>
          rw [hb] at k
          rw [if_pos rfl] at k
          intro c' H' kp hD'
          walk_at "v"
          intro r hr
          obtain ⟨e1, e2, e3⟩ := dk_tup kp hD' hr (ds := [.str "told", .str (readD s a)]) (.cons (.str _) (.cons (.str _) .nil))
          exact k _ _ _ e1 e2 e3
      | safe a =>
        have hC3 : TpAt K g c H q [.str "safe", .int a] := hC2
        walk_at "v"
        refine ⟨c, i, p, s, a, rfl, hD, hi, ?_⟩
        have htl : tellC s (.safe a) = if inB s a then (dTold (.str (s.firm.getD a.toNat Str.empty)), s) else (dRec a, s) := rfl
        rw [htl] at k
        cases hb : inB s a with
        | false =>
          rw [hb] at k
          intro c' H' d kp hD' hd
          refine ⟨true, mRR, fun _ x hx => ?_, fun z => by cases z⟩
          walk_at "v"
          intro r hr
          obtain ⟨e1, e2, e3⟩ := dk_tup kp hD' hr (ds := [.str "record", .int a]) (.cons (.str _) (.cons (.int _) .nil))
          exact k _ _ _ e1 e2 e3
        | true =>
          rw [hb] at k
          rw [if_pos rfl] at k
          intro c' H' kp hD'
          walk_at "v"
          intro r hr
          obtain ⟨e1, e2, e3⟩ := dk_tup kp hD' hr (ds := [.str "told", .str (s.firm.getD a.toNat Str.empty)]) (.cons (.str _) (.cons (.str _) .nil))
          exact k _ _ _ e1 e2 e3
      | fall ks =>
        obtain ⟨l, hC3, hl⟩ := hC2
        walk_at "v"
        refine ⟨c, i, g, p, l, s, ks, rfl, hD, hW, hi, hg, hl, Nat.le_trans hok (by decide), ?_⟩
        intro c' H' kp hD'
        walk_at "v"
        intro r hr
        obtain ⟨e1, e2, e3⟩ := dk_tup kp hD' hr (ds := [.str "told", .non]) (.cons (.str _) (.cons .non .nil))
        exact k _ _ _ e1 e2 e3
      | order n ks =>
        obtain ⟨l, hC3, hl⟩ := hC2
        walk_at "v"
        refine ⟨c, i, g, p, l, s, n, ks, rfl, hD, hi, hg, hl, ?_⟩
        intro c' H' kp hD'
        walk_at "v"
        intro r hr
        obtain ⟨e1, e2, e3⟩ := dk_tup kp hD' hr (ds := [.str "told", .non]) (.cons (.str _) (.cons .non .nil))
        exact k _ _ _ e1 e2 e3
      | spoil a n sg =>
        have hC3 : TpAt K g c H q [.str "spoil", .int a, .int n, .str sg] := hC2
        walk_at "v"
        refine ⟨c, i, p, s, a, n, sg, rfl, hD, hW, hi, hok.1, hok.2.1, hok.2.2, ?_⟩
        have htl : tellC s (.spoil a n sg) = if inB s a then (dTold .non, spoilD s a n sg) else (dRec a, s) := rfl
        rw [htl] at k
        cases hb : inB s a with
        | false =>
          rw [hb] at k
          intro c' H' d kp hD' hd
          refine ⟨true, mRR, fun _ x hx => ?_, fun z => by cases z⟩
          walk_at "v"
          intro r hr
          obtain ⟨e1, e2, e3⟩ := dk_tup kp hD' hr (ds := [.str "record", .int a]) (.cons (.str _) (.cons (.int _) .nil))
          exact k _ _ _ e1 e2 e3
        | true =>
          rw [hb] at k
          rw [if_pos rfl] at k
          rw [if_pos rfl]
          intro c' H' kp hD'
          walk_at "v"
          intro r hr
          obtain ⟨e1, e2, e3⟩ := dk_tup kp hD' hr (ds := [.str "told", .non]) (.cons (.str _) (.cons .non .nil))
          exact k _ _ _ e1 e2 e3
end



open PySem L2


section
variable {P : Program} {w : World} {K : PySem.W.Frag} {mg : Str → Option Value} {base : Heap} {f CD CR CF fI : Addr} {fd : FuncData}
structure Hide (R : Prop) : Prop where
  h : R
theorem ite_val {c : Prop} [Decidable c] {A B R : Prop} (hr : R) (ha : c → Hide R → A) (hb : ¬ c → Hide R → B) : if c then A else B := by
  by_cases h : c
  · rw [if_pos h]
    exact ha h ⟨hr⟩
  · rw [if_neg h]
    exact hb h ⟨hr⟩
def spAlike (K : PySem.W.Frag) (CD : Addr) : Sp := fun vs H Q _ => ∃ (c : Col) (i1 i2 : Nat) (p q : Addr) (s : Dk), vs = [.ref p, .ref q] ∧ OwnAt K c i1 H p s ∧ DkAt K c i2 H CD q s ∧ Wf s ∧ i1 ≠ 0 ∧ i2 ≠ 0 ∧ i1 ≠ i2 ∧ s.fresh.length ≤ 100000 ∧
  ∀ c' H', Keeps (fun z => z = i2) c H c' H' → DkAt K c' i2 H' CD q s → Q (.bl true) H'
theorem ok_alike (F : FnP K "_law_disk_alike" s__law_disk_alike f fd) (m : mg "_law_disk_alike" = some (.ref f)) (b : Binds K fd ["own", "disk"] []) (T : T83 P K mg CD CR CF fI)
    (G_Disk_many : MethOk P w K mg base CX0 1 CD "many" ["self"] (spMany K CD)) (G_Disk_waits : MethOk P w K mg base CX0 1 CD "waits" ["self"] (spWaits K CD))
    (G_Disk_read : MethOk P w K mg base (CXr P w) 6 CD "read" ["self", "at"] (spRead K CD CR CF))
    (G_Disk_safe : MethOk P w K mg base (CXr P w) 6 CD "safe" ["self", "at"] (spSafe K CD CR CF))
    (G__law_same : DefOk P w K mg base CX0 4 "_law_same" ["x", "due"] (spSame K 3)) :
    DefOk P w K mg base CX0 7 "_law_disk_alike" ["own", "disk"] (spAlike K CD) := by
  refine mk_def F m b sc__law_disk_alike (fun vs H Q E h => ?_) (fun cdv A outer s H vs Q E hr h => ?_)
  · obtain ⟨c, i1, i2, p, q, s, rfl, _⟩ := h
    rfl
  · obtain ⟨c, i1, i2, p, q, s, rfl, hO, hD, hW, hi1, hi2, h12, hfr, k⟩ := h
    refine' ⟨_, PSs.nox ?der, ?rd⟩
    case der => exact
        (pss_cons (ps_if (pt_not (pt_val (pe_D G__law_same (hr.mono (by omega)) (pa_cons (pe_lst (pa_cons (pe_M0 G_Disk_many (hr.mono (by omega)) T.cl (pv 1)) (pa_cons (pe_M0 G_Disk_waits (hr.mono (by omega)) T.cl (pv 1)) pa_nil))) (pa_cons (pe_lst (pa_cons (pe_callB (call_len_seq' (K := K)) (by rfl) T.len (by decide +kernel) (pa_cons (pe_dget (hu_of hr) (pv 0) pe_str (fun _ _ => rfl)) pa_nil)) (pa_cons (pe_callB (call_len_seq' (K := K)) (by rfl) T.len (by decide +kernel) (pa_cons (pe_dget (hu_of hr) (pv 0) pe_str (fun _ _ => rfl)) pa_nil)) pa_nil))) pa_nil)))))
          (pss_one (ps_ret pe_bl))
          pss_nil)
         (pss_cons (ps_for PassesOwn.never rfl (pi_range1 (by rfl) T.range (pa_cons (pe_callB (call_len_seq' (K := K)) (by rfl) T.len (by decide +kernel) (pa_cons (pe_dget (hu_of hr) (pv 0) pe_str (fun _ _ => rfl)) pa_nil)) pa_nil)) (pg_name (i := 2) sc__law_disk_alike.nd rfl (by first | exact Or.inl rfl | exact Or.inr rfl))
          (pss_cons (ps_setLc (i := 3) (own := [("page", 4), ("text", 5)]) rfl sc__law_disk_alike.nd rfl rfl (sw_true rfl rfl rfl (by decide +kernel)) (pi_list' (K := K) (pe_dget (hu_of hr) (pv 0) pe_str (fun _ _ => rfl))) (blkOk_by (own := [("page", 4), ("text", 5)]) (N := ["own", "disk", "at", "texts", "page", "text", "due"]) (sc := (defScope s__law_disk_alike)) (by decide +kernel)) (fun _ _ _ _ _ => (pg_tup' (K := K) (n := 2) (by rfl) (pgs_cons (pg_name (i := 4) sc__law_disk_alike.nd rfl (by first | exact Or.inl rfl | exact Or.inr rfl)) (pgs_cons (pg_name (i := 5) sc__law_disk_alike.nd rfl (by first | exact Or.inl rfl | exact Or.inr rfl)) pgs_nil)))) (fun _ _ _ _ _ => (pts_one (pt_cmpR op_eq (pv 4) (pv 2) (nomark _)))) (fun _ _ _ _ _ => (pv 5)))
         (pss_cons (ps_set (i := 6) sc__law_disk_alike.nd rfl (by first | exact Or.inl rfl | exact Or.inr rfl) (pe_ifExp (pt_cmpR op_gt (pe_callB (call_len_seq' (K := K)) (by rfl) T.len (by decide +kernel) (pa_cons (pv 3) pa_nil)) pe_int (nomark _)) (pe_ix (ix_list' (K := K)) (pv 3) (pe_un un_neg pe_int) (fun _ _ => rfl)) (pe_ix (ix_list' (K := K)) (pe_dget (hu_of hr) (pv 0) pe_str (fun _ _ => rfl)) (pv 2) (fun _ _ => rfl))))
         (pss_one (ps_if (pt_not (pt_val (pe_D G__law_same (hr.mono (by omega)) (pa_cons (pe_lst (pa_cons (pe_Mx G_Disk_safe (hr.mono (by omega)) takes0 T.cl (pv 1) (pa_cons (pv 2) pa_nil)) (pa_cons (pe_Mx G_Disk_read (hr.mono (by omega)) takes0 T.cl (pv 1) (pa_cons (pv 2) pa_nil)) pa_nil))) (pa_cons (pe_lst (pa_cons (pe_ix (ix_list' (K := K)) (pe_dget (hu_of hr) (pv 0) pe_str (fun _ _ => rfl)) (pv 2) (fun _ _ => rfl)) (pa_cons (pv 6) pa_nil))) pa_nil)))))
          (pss_one (ps_ret pe_bl))
          pss_nil)))))
         (pss_one (ps_ret pe_bl))))
    case rd =>
      obtain ⟨dx, lf, lr, lk, rows, h1, h2, h3, h4, h5, h6, h7, h8, h9⟩ := hD.ex
      obtain ⟨mf, mr, mk, mows, g1, g2, g3, g4, g5, g6, g7, g8, g9⟩ := hO.ex
      walk_at "v"
      refine ⟨c, i2, q, s, rfl, hD, ?_⟩
      walk_at "v"
      refine ⟨c, i2, q, s, rfl, hD, ?_⟩
      walk_at "v"
      intro m0 hm0
      have k0 : Keeps None' c H (cset c m0 0) (upd H m0 (.lst [.int s.firm.length, .int s.fresh.length])) := keeps_new hm0
      have hO0 := hO.keep k0 (fun z => z) (fun z => z)
      have hL0 : LsAt K 0 (cset c m0 0) (upd H m0 (.lst [.int s.firm.length, .int s.fresh.length])) m0 [.int s.firm.length, .int s.fresh.length] := LsAt.mk cset_same upd_same
      generalize cset c m0 0 = c0 at k0 hO0 hL0
      generalize upd H m0 (.lst [.int s.firm.length, .int s.fresh.length]) = H0 at k0 hO0 hL0 ⊢
      obtain ⟨nf, nr, nk, nows, e1, e2, e3, e4, e5, e6, e7, e8, e9⟩ := hO0.ex
      walk_at "v"
      intro m1 hm1
      rw [List.length_map, rows_len e8]
      have k1 : Keeps None' c0 H0 (cset c0 m1 0) (upd H0 m1 (.lst [.int s.firm.length, .int s.fresh.length])) := keeps_new hm1
      walk_at "v"
      refine ⟨cset c0 m1 0, 0, 0, .lst [.int s.firm.length, .int s.fresh.length], .ref m0, .ref m1, rfl, .lst (Nat.le_of_ble_eq_true rfl) (fun d hd => ?_), .lst (hL0.keep k1 (fun z => z)) (.cons (.int _) (.cons (.int _) .nil)), .lst (LsAt.mk cset_same upd_same) (.cons (.int _) (.cons (.int _) .nil)), ?_⟩
      · rcases List.mem_cons.mp hd with rfl | hd
        · exact .int _
        · rcases List.mem_cons.mp hd with rfl | hd
          · exact .int _
          · cases hd
      · intro c' H' kp
        have kq : Keeps None' c H c' H' := (k0.trans k1).trans kp
        have hO1 := hO.keep kq (fun z => z) (fun z => z)
        have hD1 := hD.keep kq (fun z => z) (fun z => z)
        obtain ⟨of, or, ok, oows, u1, u2, u3, u4, u5, u6, u7, u8, u9⟩ := hO1.ex
        walk_at "v"
        have lo5 := hW.hi
        refine ⟨by rw [List.length_map]; omega, ?_⟩
        rw [Int.toNat_natCast, List.length_map]
        refine for_range (fun j σ Hx => ∃ (cx : Col) (x2 x3 x4 x5 x6 : Option V), σ = [some (.ref p), some (.ref q), x2, x3, x4, x5, x6] ∧ Keeps (fun z => z = i2) c H cx Hx ∧ DkAt K cx i2 Hx CD q s) ?_ ?_ ?_
        · exact ⟨c', _, _, _, _, _, rfl, kq.any, hD1⟩
        · rintro j σ Hx hj ⟨cx, x2, x3, x4, x5, x6, rfl, kx, hDx⟩
          have hOx := hO.keep kx h12 (fun z => hi2 z.symm)
          obtain ⟨pf, pr, pk, pows, v1, v2, v3, v4, v5, v6, v7, v8, v9⟩ := hOx.ex
          walk_at "v"
          intro m2 hm2
          have hz : (0 + (j : Int)) = (j : Int) := by omega
          rw [hz]
          refine lc_list (xs := pows) (fun n Hy => Hy = upd Hx m2 (.lst ((picks s.fresh j n).map V.str))) rfl (fun n Hy _ z => by rw [z]; exact .inl (.inl (hp2 (ne_of_none v6 hm2) v6))) ?_ ?_
          · rintro n x Hy hx rfl
            obtain ⟨q1, ta, hq1, rfl, q3⟩ := rows_get v8 hx
            have st := (q3.keep (keeps_new (I := None') (q := 7) (o := .lst ((picks s.fresh j n).map V.str)) hm2) (fun z => z)).sq
            have hlen : ((picks s.fresh j n).map V.str).length < sizeLine := by
              have := picks_len s.fresh j n
              have := szL
              rw [List.length_map]
              omega
            have hstep := picks_succ j hq1
            walk_at "v"
            refine ite2 (fun d3 => ?_) (fun d3 => ?_)
            · rw [if_pos (dint d3)] at hstep
              walk_at "v"
              rw [upd_upd, hstep, List.map_append]
              rfl
            · rw [if_neg (dintn d3)] at hstep
              rw [hstep]
          · rintro Hy rfl
            rw [rows_len v8]
            have hp0 := picks_read s j
            have k2 : Keeps None' cx Hx (cset cx m2 0) (upd Hx m2 (.lst ((picks s.fresh j s.fresh.length).map V.str))) := keeps_new hm2
            have hD2 := hDx.keep k2 (fun z => z) (fun z => z)
            have hO2 := hOx.keep k2 (fun z => z) (fun z => z)
            generalize cset cx m2 0 = c2 at k2 hD2 hO2
            have hL2 : upd Hx m2 (.lst ((picks s.fresh j s.fresh.length).map V.str)) m2 = some (.lst ((picks s.fresh j s.fresh.length).map V.str)) := upd_same
            generalize upd Hx m2 (.lst ((picks s.fresh j s.fresh.length).map V.str)) = H2 at k2 hD2 hO2 hL2 ⊢
            generalize picks s.fresh j s.fresh.length = F at hp0 hL2
            walk_at "v"
            obtain ⟨qf, qr, qk, qows, w1, w2, w3, w4, w5, w6, w7, w8, w9⟩ := hO2.ex
            have j0 : (0 : Int) ≤ (j : Int) := by omega
            have j1 : (j : Int) < (s.firm.length : Int) := by omega
            have hat := firm_at j0 j1
            refine' ite_val ?r ?a ?b
            case a =>
              intro d3 r
              have hF : F ≠ [] := fun z => by rw [z] at d3; simp at d3
              have hlast := atI_last hF
              rw [hp0.1 hF] at hlast
              walk_at "v"
              exact r.h
            case b =>
              intro d3 r
              have hF : F = [] := by
                cases F with
                | nil => rfl
                | cons x r => exact absurd (by simp) d3
              rw [← hp0.2 hF] at hat
              walk_at "v"
              exact r.h
            case r =>
              obtain ⟨y0, y1, y2, y3, y4, y5, y6, y7⟩ := hD2.ex
              walk_at "v"
              refine ⟨c2, i2, q, s, j, rfl, hD2, hi2, ?_⟩
              rw [in_true j0 j1]
              intro c3 H3 k3 hD3
              obtain ⟨z0, z1, z2, z3, z4, z5, z6, z7⟩ := hD3.ex
              walk_at "v"
              refine ⟨c3, i2, q, s, j, rfl, hD3, hi2, ?_⟩
              rw [in_true j0 j1]
              intro c4 H4 k4 hD4
              have kk : Keeps (fun z => z = i2) c H c4 H4 := ((kx.trans k2.any).trans k3).trans k4
              walk_at "v"
              intro m3 hm3
              have hO4 := hO.keep kk h12 (fun z => hi2 z.symm)
              generalize s.firm.getD ((j : Int)).toNat Str.empty = tA at hat ⊢
              generalize readD s (j : Int) = tB
              have k5 : Keeps None' c4 H4 (cset c4 m3 0) (upd H4 m3 (.lst [.str tA, .str tB])) := keeps_new hm3
              have hO5 := hO4.keep k5 (fun z => z) (fun z => z)
              have hD5 := hD4.keep k5 (fun z => z) (fun z => z)
              have hL5 : LsAt K 0 (cset c4 m3 0) (upd H4 m3 (.lst [.str tA, .str tB])) m3 [.str tA, .str tB] := LsAt.mk cset_same upd_same
              generalize cset c4 m3 0 = c5 at k5 hO5 hL5 hD5
              generalize upd H4 m3 (.lst [.str tA, .str tB]) = H5 at k5 hO5 hL5 hD5 ⊢
              obtain ⟨s1, s2, s3, s4, s5, s6, s7, s8, s9⟩ := hO5.ex
              walk_at "v"
              intro m4 hm4
              have k6 : Keeps None' c5 H5 (cset c5 m4 0) (upd H5 m4 (.lst [.str tA, .str tB])) := keeps_new hm4
              walk_at "v"
              refine ⟨cset c5 m4 0, 0, 0, .lst [.str tA, .str tB], .ref m3, .ref m4, rfl, .lst (Nat.le_of_ble_eq_true rfl) (fun d hd => ?_), .lst (hL5.keep k6 (fun z => z)) (.cons (.str _) (.cons (.str _) .nil)), .lst (LsAt.mk cset_same upd_same) (.cons (.str _) (.cons (.str _) .nil)), ?_⟩
              · rcases List.mem_cons.mp hd with rfl | hd
                · exact .str _
                · rcases List.mem_cons.mp hd with rfl | hd
                  · exact .str _
                  · cases hd
              · intro c7 H7 k7
                walk_at "v"
                exact ⟨c7, _, _, _, _, _, rfl, kk.trans ((k5.trans k6).trans k7).any, (hD5.keep k6 (fun z => z) (fun z => z)).keep k7 (fun z => z) (fun z => z)⟩
        · rintro σ Hx ⟨cx, x2, x3, x4, x5, x6, rfl, kx, hDx⟩
          walk_at "v"
          exact k cx Hx kx hDx
end



open PySem L2


theorem call_isX' {X : Cx} {K : PySem.W.Frag} (h : X.K = K := by rfl) : CallR X (.builtin "isinstance") (rIsX K) := by subst h; exact call_isX
/-- the accounts and the disks, by their numbers -/
structure Both (K : PySem.W.Frag) (CD : Addr) (c : Col) (H : Hp) (m : Nat) (os ds : List Addr) (ss : List Dk) : Prop where
  ld : ds.length = os.length
  ls : ss.length = os.length
  le : os.length ≤ 2
  all : ∀ (n : Nat) (o d : Addr) (s : Dk), os[n]? = some o → ds[n]? = some d → ss[n]? = some s → OwnAt K c (10 + n) H o s ∧ DkAt K c (20 + n) H CD d s ∧ Wf s ∧ s.fresh.length ≤ m
theorem lt_of_get {α : Type} {xs : List α} {n : Nat} {x : α} (h : xs[n]? = some x) : n < xs.length := by
  rcases Nat.lt_or_ge n xs.length with z | z
  · exact z
  · rw [List.getElem?_eq_none z] at h
    cases h
theorem Both.keep {K : PySem.W.Frag} {CD : Addr} {I : Nat → Prop} {c c' : Col} {H H' : Hp} {m : Nat} {os ds : List Addr} {ss : List Dk} (x : Keeps I c H c' H') (n0 : ¬ I 0) (h1 : ∀ n, n < os.length → n < 2 → ¬ I (10 + n)) (h2 : ∀ n, n < os.length → n < 2 → ¬ I (20 + n)) (h : Both K CD c H m os ds ss) : Both K CD c' H' m os ds ss :=
  ⟨h.ld, h.ls, h.le, fun n o d s a b e => by
    have hn : n < 2 := Nat.lt_of_lt_of_le (lt_of_get a) h.le
    obtain ⟨q1, q2, q3, q4⟩ := h.all n o d s a b e
    exact ⟨q1.keep x (h1 n (lt_of_get a) hn) n0, q2.keep x (h2 n (lt_of_get a) hn) n0, q3, q4⟩⟩
theorem Both.le' {K : PySem.W.Frag} {CD : Addr} {c : Col} {H : Hp} {m m' : Nat} {os ds : List Addr} {ss : List Dk} (e : m ≤ m') (h : Both K CD c H m os ds ss) : Both K CD c H m' os ds ss :=
  ⟨h.ld, h.ls, h.le, fun n o d s a b e' => by
    obtain ⟨q1, q2, q3, q4⟩ := h.all n o d s a b e'
    exact ⟨q1, q2, q3, Nat.le_trans q4 e⟩⟩
/-- one account and its disk have changed -/
theorem Both.set {K : PySem.W.Frag} {CD : Addr} {c c' : Col} {H H' : Hp} {m m' n : Nat} {os ds : List Addr} {ss : List Dk} {o d : Addr} {s' : Dk} {I : Nat → Prop} (x : Keeps I c H c' H') (n0 : ¬ I 0) (hI : ∀ i, i < 2 → i ≠ n → ¬ I (10 + i) ∧ ¬ I (20 + i)) (hm : m ≤ m') (h : Both K CD c H m os ds ss)
    (ho : os[n]? = some o) (hd : ds[n]? = some d) (h1 : OwnAt K c' (10 + n) H' o s') (h2 : DkAt K c' (20 + n) H' CD d s') (h3 : Wf s') (h4 : s'.fresh.length ≤ m') : Both K CD c' H' m' os ds (ss.set n s') := by
  have e2 := h.ls
  refine ⟨h.ld, by rw [List.length_set]; exact h.ls, h.le, fun i o' d' t a b e => ?_⟩
  by_cases hi : i = n
  · subst hi
    have hlt : i < ss.length := by have := lt_of_get ho; omega
    rw [List.getElem?_set_self hlt] at e
    rw [ho] at a
    rw [hd] at b
    cases a
    cases b
    cases e
    exact ⟨h1, h2, h3, h4⟩
  · rw [List.getElem?_set_ne (Ne.symm hi)] at e
    obtain ⟨q1, q2, q3, q4⟩ := h.all i o' d' t a b e
    have hlt : i < 2 := Nat.lt_of_lt_of_le (lt_of_get a) h.le
    obtain ⟨z1, z2⟩ := hI i hlt hi
    exact ⟨q1.keep x z1 n0, q2.keep x z2 n0, q3, Nat.le_trans q4 hm⟩
theorem tell_wf {s : Dk} (w : Wf s) : ∀ {call : Call}, call.ok → Wf (tellC s call).2
  | .write a t, h => by
    simp only [tellC]
    split
    · next z =>
      obtain ⟨z1, z2⟩ := (Bool.and_eq_true _ _).mp z
      obtain ⟨b0, b1⟩ := in_of z1
      exact moved_wf (push_wf w b0 b1 (of_decide_eq_true z2))
    · exact w
  | .sync, _ => by
    simp only [tellC]
    split
    · exact moved_wf w
    · exact safe_wf (moved_wf w)
  | .read a, _ => by
    simp only [tellC]
    split <;> exact w
  | .safe a, _ => by
    simp only [tellC]
    split <;> exact w
  | .fall ks, _ => fall_wf w ks
  | .order n ks, h => ⟨w.lo, w.hi, w.fm, w.fr, Nat.le_trans h (by decide)⟩
  | .spoil a p sg, h => by
    simp only [tellC]
    split
    · next z =>
      obtain ⟨b0, b1⟩ := in_of z
      exact spoil_wf w b0 b1 h.1 h.2.1 h.2.2
    · exact w
theorem moved_len (s : Dk) : (movedD s).fresh.length ≤ s.fresh.length := by
  unfold movedD
  split
  · exact Nat.zero_le _
  · exact Nat.le_refl _
theorem tell_len (s : Dk) : ∀ (call : Call), (tellC s call).2.fresh.length ≤ s.fresh.length + 1
  | .write a t => by
    simp only [tellC]
    split
    · refine Nat.le_trans (moved_len _) ?_
      show (s.fresh ++ [(a, pg t)]).length ≤ _
      rw [List.length_append]
      exact Nat.le_refl _
    · exact Nat.le_succ _
  | .sync => by
    simp only [tellC]
    split
    · exact Nat.le_trans (moved_len _) (Nat.le_succ _)
    · exact Nat.zero_le _
  | .read a => by
    simp only [tellC]
    split <;> exact Nat.le_succ _
  | .safe a => by
    simp only [tellC]
    split <;> exact Nat.le_succ _
  | .fall ks => Nat.zero_le _
  | .order n ks => Nat.le_succ _
  | .spoil a p sg => by
    simp only [tellC]
    split <;> exact Nat.le_succ _
theorem fl_call : ∀ {call : Call}, call.ok → Fl 3 call.d
  | .write a t, _ => .tup (Nat.le_of_ble_eq_true rfl) fun d h => by
    rcases List.mem_cons.mp h with rfl | h
    · exact .str _
    rcases List.mem_cons.mp h with rfl | h
    · exact .int _
    rcases List.mem_cons.mp h with rfl | h
    · exact .str _
    cases h
  | .sync, _ => .tup (Nat.le_of_ble_eq_true rfl) fun d h => by
    rcases List.mem_cons.mp h with rfl | h
    · exact .str _
    cases h
  | .read a, _ => .tup (Nat.le_of_ble_eq_true rfl) fun d h => by
    rcases List.mem_cons.mp h with rfl | h
    · exact .str _
    rcases List.mem_cons.mp h with rfl | h
    · exact .int _
    cases h
  | .safe a, _ => .tup (Nat.le_of_ble_eq_true rfl) fun d h => by
    rcases List.mem_cons.mp h with rfl | h
    · exact .str _
    rcases List.mem_cons.mp h with rfl | h
    · exact .int _
    cases h
  | .fall ks, hk => .tup (Nat.le_of_ble_eq_true rfl) fun d h => by
    rcases List.mem_cons.mp h with rfl | h
    · exact .str _
    rcases List.mem_cons.mp h with rfl | h
    · refine .lst (by rw [List.length_map]; exact Nat.le_trans hk (by decide)) fun e he => ?_
      obtain ⟨z, _, rfl⟩ := List.mem_map.mp he
      exact .int _
    cases h
  | .order n ks, hk => .tup (Nat.le_of_ble_eq_true rfl) fun d h => by
    rcases List.mem_cons.mp h with rfl | h
    · exact .str _
    rcases List.mem_cons.mp h with rfl | h
    · exact .int _
    rcases List.mem_cons.mp h with rfl | h
    · refine .lst (by rw [List.length_map]; exact Nat.le_trans hk (by decide)) fun e he => ?_
      obtain ⟨z, _, rfl⟩ := List.mem_map.mp he
      exact .int _
    cases h
  | .spoil a p sg, _ => .tup (Nat.le_of_ble_eq_true rfl) fun d h => by
    rcases List.mem_cons.mp h with rfl | h
    · exact .str _
    rcases List.mem_cons.mp h with rfl | h
    · exact .int _
    rcases List.mem_cons.mp h with rfl | h
    · exact .int _
    rcases List.mem_cons.mp h with rfl | h
    · exact .str _
    cases h
theorem fl_pair {t : Str} {d : D} (h : Fl 2 d) : Fl 3 (.tup [.str t, d]) := .tup (Nat.le_of_ble_eq_true rfl) fun e he => by
  rcases List.mem_cons.mp he with rfl | he
  · exact .str _
  rcases List.mem_cons.mp he with rfl | he
  · exact h
  cases he
theorem fl_tell (s : Dk) : ∀ (call : Call), Fl 3 (tellC s call).1
  | .write a t => by
    simp only [tellC]
    split
    · dsimp only
      split <;> exact fl_pair .non
    · exact fl_pair (.int _)
  | .sync => by
    simp only [tellC]
    split <;> exact fl_pair .non
  | .read a => by
    simp only [tellC]
    split
    · exact fl_pair (.str _)
    · exact fl_pair (.int _)
  | .safe a => by
    simp only [tellC]
    split
    · exact fl_pair (.str _)
    · exact fl_pair (.int _)
  | .fall ks => fl_pair .non
  | .order n ks => fl_pair .non
  | .spoil a p sg => by
    simp only [tellC]
    split
    · exact fl_pair .non
    · exact fl_pair (.int _)
theorem is_ref {K : PySem.W.Frag} {k : Nat} {c : Col} {H : Hp} {call : Call} {v : V} (h : Is K k c H call.d v) : ∃ g, v = .ref g := by
  cases call <;> (cases h; exact ⟨_, rfl⟩)
theorem Both.push {K : PySem.W.Frag} {CD : Addr} {c : Col} {H : Hp} {m : Nat} {os ds : List Addr} {ss : List Dk} {o d : Addr} {s : Dk} (h : Both K CD c H m os ds ss) (hl : os.length < 2)
    (h1 : OwnAt K c (10 + os.length) H o s) (h2 : DkAt K c (20 + os.length) H CD d s) (h3 : Wf s) (h4 : s.fresh.length ≤ m) : Both K CD c H m (os ++ [o]) (ds ++ [d]) (ss ++ [s]) := by
  have e1 := h.ld
  have e2 := h.ls
  refine ⟨by simp [e1], by simp [e2], by simp; omega, fun n o' d' s' a b e => ?_⟩
  by_cases hn : n < os.length
  · rw [List.getElem?_append_left hn] at a
    rw [List.getElem?_append_left (by omega)] at b
    rw [List.getElem?_append_left (by omega)] at e
    exact h.all n o' d' s' a b e
  · have hn2 := lt_of_get a
    have en : n = os.length := by
      rw [List.length_append] at hn2
      simp at hn2
      omega
    subst en
    rw [List.getElem?_append_right (Nat.le_refl _)] at a
    rw [List.getElem?_append_right (by omega)] at b
    rw [List.getElem?_append_right (by omega)] at e
    have ea : o' = o := by simpa using a.symm
    have eb : d' = d := by
      have : os.length - ds.length = 0 := by omega
      rw [this] at b
      simpa using b.symm
    have ee : s' = s := by
      have : os.length - ss.length = 0 := by omega
      rw [this] at e
      simpa using e.symm
    subst ea eb ee
    exact ⟨h1, h2, h3, h4⟩
section
variable {P : Program} {w : World} {K : PySem.W.Frag} {mg : Str → Option Value} {base : Heap} {f CD CR CF CN fI : Addr} {fd : FuncData}
def spLaw (K : PySem.W.Frag) : Sp := fun vs H Q _ => ∃ (a : Addr) (ns : List Int), vs = [.ref a] ∧ SqL K H a (ns.map V.int) ∧ ∀ H', Q (.bl true) H'
theorem ok_law (F : FnP K "law" s_law f fd) (T : T83 P K mg CD CR CF fI)
    (gN : mg "NetError" = some (.ref CN)) (hVE : mg "ValueError" = none) (xcF : xcB K CF = true) (kaF : PySem.W.kitAny K (.ref CF) [.ref CN, .type "ValueError"] = some false)
    (G__law_draws : DefOk P w K mg base CX0 1 "_law_draws" ["script"] (spDraws K)) (G__law_draw : DrawOk P w K mg base)
    (G__law_new_disk : DefOk P w K mg base CX0 2 "_law_new_disk" ["many"] (spNew K)) (G_Disk : MkOk P w K mg base CX0 2 CD "Disk" ["self", "many"] (spInit K CD))
    (G__law_call : DefOk P w K mg base CX0 3 "_law_call" ["draws", "own"] (spCall K)) (G__law_copy : DefOk P w K mg base CX0 4 "_law_copy" ["thing"] (spCopy K 3))
    (G__law_disk_called : DefOk P w K mg base CX0 8 "_law_disk_called" ["disk", "call"] (spCalled K CD)) (G__law_disk_due : DefOk P w K mg base CX0 3 "_law_disk_due" ["own", "call"] (spDue K))
    (G__law_same : DefOk P w K mg base CX0 4 "_law_same" ["x", "due"] (spSame K 3)) (G__law_disk_alike : DefOk P w K mg base CX0 7 "_law_disk_alike" ["own", "disk"] (spAlike K CD)) :
    FnOk P w K mg base CX0 9 f fd ["script"] (spLaw K) := by
  refine F.ok sc_law (fun vs H Q E h => ?_) (fun cdv A outer s H vs Q E hr h => ?_)
  · obtain ⟨a, ns, rfl, _⟩ := h
    rfl
  · obtain ⟨sc, ns, rfl, hS, k⟩ := h
    have gF := T.gF
    have xF := T.xF
    have kF := T.kF
    refine' ⟨_, PSs.nox ?der, ?rd⟩
    case der => exact
        (pss_cons (ps_set (i := 1) sc_law.nd rfl (by first | exact Or.inl rfl | exact Or.inr rfl) (pe_D G__law_draws (hr.mono (by omega)) (pa_cons (pv 0) pa_nil)))
         (pss_cons (ps_set (i := 2) sc_law.nd rfl (by first | exact Or.inl rfl | exact Or.inr rfl) (pe_lst pa_nil))
         (pss_cons (ps_set (i := 3) sc_law.nd rfl (by first | exact Or.inl rfl | exact Or.inr rfl) (pe_lst pa_nil))
         (pss_cons (ps_for PassesOwn.never rfl (pi_range1 (by rfl) T.range (pa_cons pe_int pa_nil)) (pg_name (i := 4) sc_law.nd rfl (by first | exact Or.inl rfl | exact Or.inr rfl))
          (pss_cons (ps_set (i := 5) sc_law.nd rfl (by first | exact Or.inl rfl | exact Or.inr rfl) (pe_op op_add pe_int (pe_D G__law_draw (hr.mono (by omega)) (pa_cons (pv 1) (pa_cons pe_int pa_nil)))))
         (pss_cons (ps_expr (pe_bm' (K := K) PySem.F.plainAttrs_list PySem.F.slot_list_append PySem.F.type_list_append mt_append (pv 2) (pa_cons (pe_D G__law_new_disk (hr.mono (by omega)) (pa_cons (pv 5) pa_nil)) pa_nil)))
         (pss_one (ps_expr (pe_bm' (K := K) PySem.F.plainAttrs_list PySem.F.slot_list_append PySem.F.type_list_append mt_append (pv 3) (pa_cons (pe_mkD G_Disk (hr.mono (by omega)) (pa_cons (pv 5) pa_nil)) pa_nil)))))))
         (pss_cons (ps_for PassesOwn.never rfl (pi_range1 (by rfl) T.range (pa_cons (pe_op op_add pe_int (pe_D G__law_draw (hr.mono (by omega)) (pa_cons (pv 1) (pa_cons pe_int pa_nil)))) pa_nil)) (pg_name (i := 4) sc_law.nd rfl (by first | exact Or.inl rfl | exact Or.inr rfl))
          (pss_cons (ps_set (i := 6) sc_law.nd rfl (by first | exact Or.inl rfl | exact Or.inr rfl) (pe_D G__law_draw (hr.mono (by omega)) (pa_cons (pv 1) (pa_cons pe_int pa_nil))))
         (pss_cons (ps_set (i := 7) sc_law.nd rfl (by first | exact Or.inl rfl | exact Or.inr rfl) (pe_D G__law_call (hr.mono (by omega)) (pa_cons (pv 1) (pa_cons (pe_ix (ix_list' (K := K)) (pv 2) (pv 6) (fun _ _ => rfl)) pa_nil))))
         (pss_cons (ps_set (i := 8) sc_law.nd rfl (by first | exact Or.inl rfl | exact Or.inr rfl) (pe_D G__law_copy (hr.mono (by omega)) (pa_cons (pv 7) pa_nil)))
         (pss_cons (ps_set (i := 9) sc_law.nd rfl (by first | exact Or.inl rfl | exact Or.inr rfl) (pe_D G__law_disk_called (hr.mono (by omega)) (pa_cons (pe_ix (ix_list' (K := K)) (pv 3) (pv 6) (fun _ _ => rfl)) (pa_cons (pv 8) pa_nil))))
         (pss_cons (ps_if (PW.pt (pw_or (pt_not (pt_val (pe_D G__law_same (hr.mono (by omega)) (pa_cons (pv 9) (pa_cons (pe_D G__law_disk_due (hr.mono (by omega)) (pa_cons (pe_ix (ix_list' (K := K)) (pv 2) (pv 6) (fun _ _ => rfl)) (pa_cons (pv 7) pa_nil))) pa_nil))))) (pw_or1 (pt_not (pt_val (pe_D G__law_same (hr.mono (by omega)) (pa_cons (pv 8) (pa_cons (pv 7) pa_nil))))))))
          (pss_one (ps_ret pe_bl))
          pss_nil)
         (Evl.pss_cut (ps_if (pt_cmpR (op_in_seq' (K := K)) (pe_ix (ix_tup' (K := K)) (pv 7) pe_int (fun _ _ => rfl)) (pe_tup (pa_cons pe_str (pa_cons pe_str pa_nil))) (by rfl))
          (pss_one (ps_expr (pe_bm' (K := K) PySem.F.plainAttrs_list PySem.F.slot_list_append PySem.F.type_list_append mt_append (pe_ix (ix_tup' (K := K)) (pv 8) (pe_un un_neg pe_int) (fun _ _ => rfl)) (pa_cons pe_int pa_nil))))
          pss_nil)
         (pss_one (ps_for PassesOwn.never rfl (pi_range1 (by rfl) T.range (pa_cons pe_int pa_nil)) (pg_name (i := 10) sc_law.nd rfl (by first | exact Or.inl rfl | exact Or.inr rfl))
          (pss_one (ps_if (pt_not (pt_val (pe_D G__law_disk_alike (hr.mono (by omega)) (pa_cons (pe_ix (ix_list' (K := K)) (pv 2) (pv 10) (fun _ _ => rfl)) (pa_cons (pe_ix (ix_list' (K := K)) (pv 3) (pv 10) (fun _ _ => rfl)) pa_nil)))))
          (pss_one (ps_ret pe_bl))
          pss_nil)))))))))))
         (pss_one (ps_ret (pe_not (pe_callB (call_isX' (K := K)) (by rfl) T.isinstance (by decide +kernel) (pa_cons (pe_exc1 PySem.F.excBase_Exception xF gF kF (by rfl) pe_str) (pa_cons (pe_tup (pa_cons (pe_glob (v := .ref CN) (by rfl) gN rfl) (pa_cons (pe_bltn (v := .ty "ValueError") (u := .type "ValueError") (by rfl) hVE (by decide +kernel) rfl) pa_nil))) pa_nil)))))))))))
    case rd =>
      walk_at "v"
      refine ⟨fun _ => 0, sc, ns, 1, rfl, hS, by omega, ?_⟩
      intro c0 H0 a k0 hD0
      walk_at "v"
      intro lo hlo
      walk_at "v"
      intro ld hld
      have n1 : lo ≠ ld := ne_of_none upd_same hld
      walk_at "v"
      refine for_range (fun j σ Hx => ∃ (cx : Col) (os ds : List Addr) (ss : List Dk) (x4 x5 x6 x7 x8 x9 x10 : Option V), σ = [some (.ref sc), some (.ref a), some (.ref lo), some (.ref ld), x4, x5, x6, x7, x8, x9, x10] ∧ os.length = j ∧
        cx lo = 30 ∧ cx ld = 31 ∧ Hx lo = some (.lst (os.map V.ref)) ∧ Hx ld = some (.lst (ds.map V.ref)) ∧ DrawsAt K cx 1 Hx a ∧ Both K CD cx Hx 0 os ds ss) ?_ ?_ ?_
      · refine ⟨cset (cset c0 lo 30) ld 31, [], [], [], none, none, none, none, none, none, none, rfl, rfl, ?_, cset_same, ?_, upd_same, ?_, ⟨rfl, rfl, by decide, fun n o d s z => by cases z⟩⟩
        · rw [cset_ne n1, cset_same]
        · rw [upd_ne n1, upd_same]
          rfl
        · exact (hD0.keep (I := None') (keeps_new (q := 30) hlo) (fun z => z) (fun z => z)).keep (I := None') (keeps_new hld) (fun z => z) (fun z => z)
      · rintro j σ Hx hj ⟨cx, os, ds, ss, x4, x5, x6, x7, x8, x9, x10, rfl, hl, q1, q2, q3, q4, q5, q6⟩
        walk_at "v"
        refine ⟨cx, 1, a, 5, rfl, by omega, by omega, by omega, q5, ?_⟩
        intro v H1 v0 v1 k1 hD1
        obtain ⟨q, rfl⟩ : ∃ q : Nat, v = (q : Int) := ⟨v.toNat, by omega⟩
        have hB1 := q6.keep k1 (by omega) (fun n _ hn => by omega) (fun n _ hn => by omega)
        have hlo1 := k1.at q3 (by rw [q1]; omega)
        have hld1 := k1.at q4 (by rw [q2]; omega)
        have hols : (os.map V.ref).length < sizeLine := by
          have := szL
          rw [List.length_map]
          omega
        have hdls : (ds.map V.ref).length < sizeLine := by
          have := szL
          have := q6.ld
          rw [List.length_map]
          omega
        walk_at "v"
        refine ⟨cx, 10 + j, 1 + q, by rw [Int.natCast_add]; rfl, by omega, by omega, ?_⟩
        intro c2 H2 o k2 hO
        have hlo2 := k2.at hlo1 (fun z => z)
        have hld2 := k2.at hld1 (fun z => z)
        have n1' : ld ≠ lo := n1.symm
        have c2l : c2 lo = 30 := by rw [k2.col _ _ hlo1]; exact q1
        have c2d : c2 ld = 31 := by rw [k2.col _ _ hld1]; exact q2
        have hB2 := hB1.keep k2 (fun z => z) (fun _ _ _ z => z) (fun _ _ _ z => z)
        have hD2 := hD1.keep k2 (fun z => z) (fun z => z)
        have kA : Keeps (fun z => z = 30) c2 H2 c2 (upd H2 lo (.lst (os.map V.ref ++ [.ref o]))) := keeps_put c2l
        have hO3 := hO.keep kA (by omega) (by omega)
        have hB3 := hB2.keep kA (by omega) (fun n _ hn => by omega) (fun n _ hn => by omega)
        have hD3 := hD2.keep kA (by omega) (by omega)
        have hlo3 : upd H2 lo (.lst (os.map V.ref ++ [.ref o])) lo = some (.lst (os.map V.ref ++ [.ref o])) := upd_same
        have hld3 : upd H2 lo (.lst (os.map V.ref ++ [.ref o])) ld = some (.lst (ds.map V.ref)) := hp2 n1' hld2
        walk_at "v"
        generalize upd H2 lo (.lst (os.map V.ref ++ [.ref o])) = H3 at hO3 hB3 hD3 hlo3 hld3 ⊢
        intro x dx hx hdx hne
        have kB : Keeps None' c2 H3 (cset (cset c2 dx 0) x (20 + j)) (upd (upd H3 dx (.own x)) x (.ins CD dx [])) := (keeps_new hdx).new (by rw [upd_ne (Ne.symm hne)]; exact hx)
        refine ⟨cset (cset c2 dx 0) x (20 + j), 20 + j, x, dx, 1 + q, by rw [Int.natCast_add]; rfl, by omega, cset_same, by omega, upd_same, ?_⟩
        intro c4 H4 k4 hD4
        refine ⟨rfl, ?_⟩
        have kc : Keeps (fun z => z = 20 + j) c2 H3 c4 H4 := kB.any.trans k4
        have hO4 := hO3.keep kc (by omega) (by omega)
        have hB4 := hB3.keep kc (by omega) (fun n _ hn => by omega) (fun n hn _ => by omega)
        have hDr4 := hD3.keep kc (by omega) (by omega)
        have hlo4 := kc.at hlo3 (by omega)
        have hld4 := kc.at hld3 (by omega)
        have c4l : c4 lo = 30 := by rw [kc.col _ _ hlo3]; exact c2l
        have c4d : c4 ld = 31 := by rw [kc.col _ _ hld3]; exact c2d
        walk_at "v"
        have kD : Keeps (fun z => z = 31) c4 H4 c4 (upd H4 ld (.lst (ds.map V.ref ++ [.ref x]))) := keeps_put c4d
        refine ⟨c4, os ++ [o], ds ++ [x], ss ++ [newDk (1 + q)], _, _, _, _, _, _, _, rfl, by rw [List.length_append, hl]; rfl, c4l, c4d, ?_, ?_, hDr4.keep kD (by omega) (by omega), ?_⟩
        · rw [hp2 n1 hlo4, List.map_append]
          rfl
        · rw [upd_same, List.map_append]
          rfl
        · subst hl
          exact Both.push (hB4.keep kD (by omega) (fun n _ hn => by omega) (fun n _ hn => by omega)) hj (hO4.keep kD (by omega) (by omega)) (hD4.keep kD (by omega) (by omega)) (new_wf (by omega) (by omega)) (Nat.zero_le _)
      · rintro σ Hx ⟨cx, os, ds, ss, x4, x5, x6, x7, x8, x9, x10, rfl, hl, q1, q2, q3, q4, q5, q6⟩
        have hlen2 : os.length = 2 := hl
        walk_at "v"
        refine ⟨cx, 1, a, 41, rfl, by omega, by omega, by omega, q5, ?_⟩
        intro v H1 v0 v1 k1 hD1
        obtain ⟨q, rfl⟩ : ∃ q : Nat, v = (q : Int) := ⟨v.toNat, by omega⟩
        have hB1 := q6.keep k1 (by omega) (fun n _ hn => by omega) (fun n _ hn => by omega)
        have hlo1 := k1.at q3 (by rw [q1]; omega)
        have hld1 := k1.at q4 (by rw [q2]; omega)
        refine ⟨_, _, rfl, rfl, ?_⟩
        have w1 : -(2 ^ 62) ≤ (10 : Int) + (q : Int) := by omega
        have w2 : (10 : Int) + (q : Int) < 2 ^ 62 := by omega
        refine ⟨_, rfl, w1, w2, ?_⟩
        rw [show ((10 : Int) + (q : Int)).toNat = 10 + q by omega]
        refine for_range (fun j σ Hx => ∃ (cx : Col) (ss : List Dk) (x4 x5 x6 x7 x8 x9 x10 : Option V), σ = [some (.ref sc), some (.ref a), some (.ref lo), some (.ref ld), x4, x5, x6, x7, x8, x9, x10] ∧
          cx lo = 30 ∧ cx ld = 31 ∧ Hx lo = some (.lst (os.map V.ref)) ∧ Hx ld = some (.lst (ds.map V.ref)) ∧ DrawsAt K cx 1 Hx a ∧ Both K CD cx Hx j os ds ss) ?_ ?_ ?_
        · exact ⟨cx, ss, _, _, _, _, _, _, _, rfl, q1, q2, hlo1, hld1, hD1, hB1⟩
        · clear hB1 hlo1 hld1 hD1 k1 q1 q2 q3 q4 q5 q6 cx Hx H1
          rintro j σ Hx hj ⟨cx, ss, y4, y5, y6, y7, y8, y9, y10, rfl, q1, q2, q3, q4, q5, q6⟩
          walk_at "v"
          refine ⟨cx, 1, a, 2, rfl, by omega, by omega, by omega, q5, ?_⟩
          intro v H1 v0 v1 k1 hD1
          obtain ⟨n, rfl⟩ : ∃ n : Nat, v = (n : Int) := ⟨v.toNat, by omega⟩
          have hB1 := q6.keep k1 (by omega) (fun n _ hn => by omega) (fun n _ hn => by omega)
          have hlo1 := k1.at q3 (by rw [q1]; omega)
          have hld1 := k1.at q4 (by rw [q2]; omega)
          have ed := hB1.ld
          have es := hB1.ls
          obtain ⟨o, ho⟩ : ∃ o, os[n]? = some o := ⟨_, List.getElem?_eq_getElem (by omega)⟩
          obtain ⟨d, hd⟩ : ∃ d, ds[n]? = some d := ⟨_, List.getElem?_eq_getElem (by omega)⟩
          obtain ⟨s, hs⟩ : ∃ s, ss[n]? = some s := ⟨_, List.getElem?_eq_getElem (by omega)⟩
          obtain ⟨hO, hDk, hW, hfr⟩ := hB1.all n o d s ho hd hs
          have ato : atI (os.map V.ref) (n : Int) = some (.ref o) := at_i (by omega) (by rw [show ((n : Nat) : Int).toNat = n by omega, List.getElem?_map, ho]; rfl)
          have atd : atI (ds.map V.ref) (n : Int) = some (.ref d) := at_i (by omega) (by rw [show ((n : Nat) : Int).toNat = n by omega, List.getElem?_map, hd]; rfl)
          walk_at "v"
          refine ⟨cx, 1, 10 + n, a, o, s, rfl, by omega, by omega, hD1, hO, hW, by omega, ?_⟩
          intro c2 H2 call cq hok k2 hD2 hC
          walk_at "v"
          refine ⟨c2, 40, 0, call.d, .ref cq, rfl, fl_call hok, hC, ?_⟩
          intro c3 H3 r k3 hG
          obtain ⟨g, rfl⟩ := is_ref hG
          have hn2 : n < 2 := by omega
          have k13 : Keeps (fun z => z = 1) cx H1 c3 H3 := k2.trans k3.any
          have hlo3 := k13.at hlo1 (by rw [q1]; omega)
          have hld3 := k13.at hld1 (by rw [q2]; omega)
          have hDk3 := hDk.keep k13 (by omega) (by omega)
          have hO3 := hO.keep k13 (by omega) (by omega)
          have hDr3 := hD2.keep k3 (fun z => z) (fun z => z)
          have hC3 := hC.keep k3 (fun z => z)
          walk_at "v"
          refine ⟨c3, 20 + n, 40, d, g, s, call, rfl, hDk3, hW, by omega, by omega, by omega, hok, hG.up, ?_⟩
          intro c4 H4 t k4 hDk4 ht
          have hc3l : c3 lo = 30 := by rw [k13.col _ _ hlo1]; exact q1
          have hc3d : c3 ld = 31 := by rw [k13.col _ _ hld1]; exact q2
          have hlo4 := k4.at hlo3 (by rw [hc3l]; omega)
          have hld4 := k4.at hld3 (by rw [hc3d]; omega)
          have hO4 := hO3.keep k4 (by omega) (by omega)
          have hDr4 := hDr3.keep k4 (by omega) (by omega)
          have hC4 := hC3.keep k4 (by omega)
          have hG4 := hG.keep k4 (by omega)
          walk_at "v"
          refine ⟨c4, 10 + n, o, cq, s, call, rfl, hO4, hW, by omega, by omega, hok, hC4, ?_⟩
          intro c5 H5 u k5 hO5 hu
          walk_at "v"
          refine ⟨c5, 0, 0, (tellC s call).1, t, u, rfl, fl_tell s call, ht.keep k5 (by omega), hu, ?_⟩
          intro c6 H6 k6
          have k46 : Keeps (fun z => z = 10 + n) c4 H4 c6 H6 := k5.trans k6.any
          walk_at "v"
          refine ⟨c6, 40, 0, call.d, .ref g, .ref cq, rfl, fl_call hok, (hG4.keep k46 (by omega)).up, hC4.keep k46 (by omega), ?_⟩
          intro c7 H7 k7
          have k47 : Keeps (fun z => z = 10 + n) c4 H4 c7 H7 := k46.trans k7.any
          have hO7 := (hO5.keep k6 (fun z => z) (fun z => z)).keep k7 (fun z => z) (fun z => z)
          have hDk7 := hDk4.keep k47 (by omega) (by omega)
          have hDr7 := hDr4.keep k47 (by omega) (by omega)
          have hC7 := hC4.keep k47 (by omega)
          have hG7 := hG4.keep k47 (by omega)
          have hc4l : c4 lo = 30 := by rw [k4.col _ _ hlo3]; exact hc3l
          have hc4d : c4 ld = 31 := by rw [k4.col _ _ hld3]; exact hc3d
          have hlo7 := k47.at hlo4 (by rw [hc4l]; omega)
          have hld7 := k47.at hld4 (by rw [hc4d]; omega)
          have ktot : Keeps (fun z => z = 1 ∨ z = 10 + n ∨ z = 20 + n) cx H1 c7 H7 := ((k13.mono (fun _ z => .inl z)).trans (k4.mono fun _ z => .inr (.inr z))).trans (k47.mono fun _ z => .inr (.inl z))
          have hB7 : Both K CD c7 H7 (j + 1) os ds (ss.set n (tellC s call).2) :=
            Both.set ktot (by omega) (fun i hi hne => ⟨by omega, by omega⟩) (Nat.le_succ j) hB1 ho hd hO7 hDk7 (tell_wf hW hok) (Nat.le_trans (tell_len s call) (Nat.succ_le_succ hfr))
          have hc7l : c7 lo = 30 := by rw [k47.col _ _ hlo4]; exact hc4l
          have hc7d : c7 ld = 31 := by rw [k47.col _ _ hld4]; exact hc4d
          clear hB1 hO hDk hO3 hO4 hO5 hDk3 hDk4 hDr3 hDr4 hD1 hD2 hC hC3 hC4 hG hG4 ktot k13 k46 k47 k1 k2 k3 k4 k5 k6 k7 hlo1 hlo3 hlo4 hld1 hld3 hld4 ato atd ht hu hc3l hc3d hc4l hc4d hO7 hDk7
          walk_at "v"
          generalize ss.set n (tellC s call).2 = ss2 at hB7
          refine ⟨fun σ' H' => ∃ (cx : Col) (ss : List Dk) (x4 x5 x6 x7 x8 x9 x10 : Option V), σ' = [some (.ref sc), some (.ref a), some (.ref lo), some (.ref ld), x4, x5, x6, x7, x8, x9, x10] ∧
            cx lo = 30 ∧ cx ld = 31 ∧ H' lo = some (.lst (os.map V.ref)) ∧ H' ld = some (.lst (ds.map V.ref)) ∧ DrawsAt K cx 1 H' a ∧ Both K CD cx H' (j + 1) os ds ss, ?_, ?_⟩
          · obtain ⟨vs0, ht0⟩ := call_word hC7
            have hat0 : atI (V.str call.word :: vs0) 0 = some (.str call.word) := at_i (by decide) rfl
            walk_at "v"
            intro pj hpj
            have kj : Keeps None' c7 H7 (cset c7 pj 0) (upd H7 pj (.tup [.str "fall", .str "order"])) := keeps_new hpj
            have hDr8 := hDr7.keep kj (fun z => z) (fun z => z)
            have hB8 := hB7.keep kj (fun z => z) (fun _ _ _ z => z) (fun _ _ _ z => z)
            have hG8 := call_get (hG7.keep kj (fun z => z))
            have hlo8 := kj.at hlo7 (fun z => z)
            have hld8 := kj.at hld7 (fun z => z)
            have hc8l : cset c7 pj 0 lo = 30 := by rw [kj.col _ _ hlo7]; exact hc7l
            have hc8d : cset c7 pj 0 ld = 31 := by rw [kj.col _ _ hld7]; exact hc7d
            walk_at "v"
            generalize cset c7 pj 0 = c8 at hDr8 hB8 hG8 hc8l hc8d
            generalize upd H7 pj (.tup [.str "fall", .str "order"]) = H8 at hDr8 hB8 hG8 hlo8 hld8 ⊢
            clear kj hDr7 hB7 hG7 hlo7 hld7 ht0 hat0 hC7
            have mid : ∃ (cx : Col) (ss : List Dk) (x4 x5 x6 x7 x8 x9 x10 : Option V), [some (.ref sc), some (.ref a), some (.ref lo), some (.ref ld), some (V.int (0 + (j : Int))), y5, some (V.int (n : Int)), some (.ref cq), some (.ref g), some t, y10] = [some (.ref sc), some (.ref a), some (.ref lo), some (.ref ld), x4, x5, x6, x7, x8, x9, x10] ∧
              cx lo = 30 ∧ cx ld = 31 ∧ H8 lo = some (.lst (os.map V.ref)) ∧ H8 ld = some (.lst (ds.map V.ref)) ∧ DrawsAt K cx 1 H8 a ∧ Both K CD cx H8 (j + 1) os ds ss := ⟨c8, ss2, _, _, _, _, _, _, _, rfl, hc8l, hc8d, hlo8, hld8, hDr8, hB8⟩
            have put : ∀ (l : Addr) (ks : List V), LsAt ([] : PySem.W.Frag) 40 c8 H8 l ks → ∃ (cx : Col) (ss : List Dk) (x4 x5 x6 x7 x8 x9 x10 : Option V), [some (.ref sc), some (.ref a), some (.ref lo), some (.ref ld), some (V.int (0 + (j : Int))), y5, some (V.int (n : Int)), some (.ref cq), some (.ref g), some t, y10] = [some (.ref sc), some (.ref a), some (.ref lo), some (.ref ld), x4, x5, x6, x7, x8, x9, x10] ∧
              cx lo = 30 ∧ cx ld = 31 ∧ upd H8 l (.lst (ks ++ [.int 3])) lo = some (.lst (os.map V.ref)) ∧ upd H8 l (.lst (ks ++ [.int 3])) ld = some (.lst (ds.map V.ref)) ∧ DrawsAt K cx 1 (upd H8 l (.lst (ks ++ [.int 3]))) a ∧ Both K CD cx (upd H8 l (.lst (ks ++ [.int 3]))) (j + 1) os ds ss := fun l ks hl => by
              have kp : Keeps (fun z => z = 40) c8 H8 c8 (upd H8 l (.lst (ks ++ [.int 3]))) := keeps_put hl.raw.1
              exact ⟨c8, ss2, _, _, _, _, _, _, _, rfl, hc8l, hc8d, kp.at hlo8 (by omega), kp.at hld8 (by omega), hDr8.keep kp (by omega) (by omega), hB8.keep kp (by omega) (fun n _ hn => by omega) (fun n _ hn => by omega)⟩
            cases call with
            | fall ks =>
              obtain ⟨l, hC2, hl⟩ := hG8
              have hraw := hl.raw.2
              have hC3 := hC2.raw.2
              have hls : (ks.map V.int).length < sizeLine := by
                have e1 : ks.length ≤ 1000 := hok
                have := szL
                rw [List.length_map]
                omega
              dsimp only [Call.word]
              walk_at "v"
              exact put l _ hl
            | order z ks =>
              obtain ⟨l, hC2, hl⟩ := hG8
              have hraw := hl.raw.2
              have hC3 := hC2.raw.2
              have hls : (ks.map V.int).length < sizeLine := by
                have e1 : ks.length ≤ 1000 := hok
                have := szL
                rw [List.length_map]
                omega
              dsimp only [Call.word]
              walk_at "v"
              exact put l _ hl
            | _ =>
              dsimp only [Call.word]
              walk_at "v"
              exact mid
          · rintro σ' H' ⟨cx, ss, x4, x5, x6, x7, x8, x9, x10, rfl, r1, r2, r3, r4, r5, r6⟩
            clear v0 v1 hB7 hDr7 hG7 hC7 hlo7 hld7
            refine ⟨_, rfl, by decide, by decide, ?_⟩
            refine for_range (fun i σ Hx => ∃ (cx : Col) (ss : List Dk) (x4 x5 x6 x7 x8 x9 x10 : Option V), σ = [some (.ref sc), some (.ref a), some (.ref lo), some (.ref ld), x4, x5, x6, x7, x8, x9, x10] ∧
              cx lo = 30 ∧ cx ld = 31 ∧ Hx lo = some (.lst (os.map V.ref)) ∧ Hx ld = some (.lst (ds.map V.ref)) ∧ DrawsAt K cx 1 Hx a ∧ Both K CD cx Hx (j + 1) os ds ss) ?_ ?_ ?_
            · exact ⟨cx, ss, _, _, _, _, _, _, _, rfl, r1, r2, r3, r4, r5, r6⟩
            · clear r1 r2 r3 r4 r5 r6 cx ss
              rintro i σ Hx hi ⟨cx, ss, z4, z5, z6, z7, z8, z9, z10, rfl, r1, r2, r3, r4, r5, r6⟩
              have hi2 : i < 2 := hi
              have ed' := r6.ld
              have es' := r6.ls
              obtain ⟨o', ho'⟩ : ∃ o, os[i]? = some o := ⟨_, List.getElem?_eq_getElem (by omega)⟩
              obtain ⟨d', hd'⟩ : ∃ d, ds[i]? = some d := ⟨_, List.getElem?_eq_getElem (by omega)⟩
              obtain ⟨s', hs'⟩ : ∃ s, ss[i]? = some s := ⟨_, List.getElem?_eq_getElem (by omega)⟩
              obtain ⟨hO', hDk', hW', hfr'⟩ := r6.all i o' d' s' ho' hd' hs'
              have ato' : atI (os.map V.ref) (0 + (i : Int)) = some (.ref o') := at_i (by omega) (by rw [show (0 + (i : Int)).toNat = i by omega, List.getElem?_map, ho']; rfl)
              have atd' : atI (ds.map V.ref) (0 + (i : Int)) = some (.ref d') := at_i (by omega) (by rw [show (0 + (i : Int)).toNat = i by omega, List.getElem?_map, hd']; rfl)
              walk_at "v"
              refine ⟨cx, 10 + i, 20 + i, o', d', s', rfl, hO', hDk', hW', by omega, by omega, by omega, by omega, ?_⟩
              intro c9 H9 k9 hDk9
              walk_at "v"
              refine ⟨c9, ss.set i s', _, _, _, _, _, _, _, rfl, by rw [k9.col _ _ r3]; exact r1, by rw [k9.col _ _ r4]; exact r2, k9.at r3 (by omega), k9.at r4 (by omega), r5.keep k9 (by omega) (by omega), ?_⟩
              exact Both.set k9 (by omega) (fun x hx hne => ⟨by omega, by omega⟩) (Nat.le_refl _) r6 ho' hd' (hO'.keep k9 (by omega) (by omega)) hDk9 hW' hfr'
            · rintro σ Hx ⟨cx, ss, z4, z5, z6, z7, z8, z9, z10, rfl, r1, r2, r3, r4, r5, r6⟩
              exact ⟨cx, ss, _, _, _, _, _, _, _, rfl, r1, r2, r3, r4, r5, r6⟩
        · rintro σ Hx ⟨cx, ss, y4, y5, y6, y7, y8, y9, y10, rfl, q1, q2, q3, q4, q5, q6⟩
          walk_at "v"
          intro e0 he0
          walk_at "v"
          intro tp htp
          have nte : e0 ≠ tp := ne_of_none upd_same htp
          refine ⟨CF, e0, tp, _, _, false, rfl, xcF, .inl (hp1 nte), upd_same, .cons (.own CN) (.cons (.ty "ValueError") .nil), kaF, ?_⟩
          exact ⟨_, rfl, k _⟩
end



open PySem L2



def d_is_whole : He.DefD := ⟨("is_whole", none), "is_whole", "is_whole", defArgs s_is_whole, defBody s_is_whole, defScope s_is_whole, [], []⟩
def d_filled : He.DefD := ⟨("filled", none), "filled", "filled", defArgs s_filled, defBody s_filled, defScope s_filled, [], []⟩
def d__law_draws : He.DefD := ⟨("_law_draws", none), "_law_draws", "_law_draws", defArgs s__law_draws, defBody s__law_draws, defScope s__law_draws, [], []⟩
def d__law_draw : He.DefD := ⟨("_law_draw", none), "_law_draw", "_law_draw", defArgs s__law_draw, defBody s__law_draw, defScope s__law_draw, [], []⟩
def d__law_same : He.DefD := ⟨("_law_same", none), "_law_same", "_law_same", defArgs s__law_same, defBody s__law_same, defScope s__law_same, [], []⟩
def d__law_copy : He.DefD := ⟨("_law_copy", none), "_law_copy", "_law_copy", defArgs s__law_copy, defBody s__law_copy, defScope s__law_copy, [], []⟩
def d__law_page : He.DefD := ⟨("_law_page", none), "_law_page", "_law_page", defArgs s__law_page, defBody s__law_page, defScope s__law_page, [], []⟩
def d__law_new_disk : He.DefD := ⟨("_law_new_disk", none), "_law_new_disk", "_law_new_disk", defArgs s__law_new_disk, defBody s__law_new_disk, defScope s__law_new_disk, [], []⟩
def d__law_fallen : He.DefD := ⟨("_law_fallen", none), "_law_fallen", "_law_fallen", defArgs s__law_fallen, defBody s__law_fallen, defScope s__law_fallen, [], []⟩
def d__law_moved : He.DefD := ⟨("_law_moved", none), "_law_moved", "_law_moved", defArgs s__law_moved, defBody s__law_moved, defScope s__law_moved, [], []⟩
def d__law_disk_due : He.DefD := ⟨("_law_disk_due", none), "_law_disk_due", "_law_disk_due", defArgs s__law_disk_due, defBody s__law_disk_due, defScope s__law_disk_due, [], []⟩
def d__law_disk_called : He.DefD := ⟨("_law_disk_called", none), "_law_disk_called", "_law_disk_called", defArgs s__law_disk_called, defBody s__law_disk_called, defScope s__law_disk_called, [], []⟩
def d__law_keeps : He.DefD := ⟨("_law_keeps", none), "_law_keeps", "_law_keeps", defArgs s__law_keeps, defBody s__law_keeps, defScope s__law_keeps, [], []⟩
def d__law_disk_alike : He.DefD := ⟨("_law_disk_alike", none), "_law_disk_alike", "_law_disk_alike", defArgs s__law_disk_alike, defBody s__law_disk_alike, defScope s__law_disk_alike, [], []⟩
def d__law_text : He.DefD := ⟨("_law_text", none), "_law_text", "_law_text", defArgs s__law_text, defBody s__law_text, defScope s__law_text, [], []⟩
def d__law_call : He.DefD := ⟨("_law_call", none), "_law_call", "_law_call", defArgs s__law_call, defBody s__law_call, defScope s__law_call, [], []⟩
def d_law : He.DefD := ⟨("law", none), "law", "law", defArgs s_law, defBody s_law, defScope s_law, [], []⟩
def d_Disk___init__ : He.DefD := ⟨("Disk", some "__init__"), "__init__", "Disk.__init__", defArgs s_Disk___init__, defBody s_Disk___init__, defScope s_Disk___init__, [], []⟩
def d_Disk_many : He.DefD := ⟨("Disk", some "many"), "many", "Disk.many", defArgs s_Disk_many, defBody s_Disk_many, defScope s_Disk_many, [], []⟩
def d_Disk_known : He.DefD := ⟨("Disk", some "known"), "known", "Disk.known", defArgs s_Disk_known, defBody s_Disk_known, defScope s_Disk_known, [], []⟩
def d_Disk_read : He.DefD := ⟨("Disk", some "read"), "read", "Disk.read", defArgs s_Disk_read, defBody s_Disk_read, defScope s_Disk_read, [], []⟩
def d_Disk_safe : He.DefD := ⟨("Disk", some "safe"), "safe", "Disk.safe", defArgs s_Disk_safe, defBody s_Disk_safe, defScope s_Disk_safe, [], []⟩
def d_Disk_waits : He.DefD := ⟨("Disk", some "waits"), "waits", "Disk.waits", defArgs s_Disk_waits, defBody s_Disk_waits, defScope s_Disk_waits, [], []⟩
def d_Disk_write : He.DefD := ⟨("Disk", some "write"), "write", "Disk.write", defArgs s_Disk_write, defBody s_Disk_write, defScope s_Disk_write, [], []⟩
def d_Disk_sync : He.DefD := ⟨("Disk", some "sync"), "sync", "Disk.sync", defArgs s_Disk_sync, defBody s_Disk_sync, defScope s_Disk_sync, [], []⟩
def d_Disk_moved : He.DefD := ⟨("Disk", some "moved"), "moved", "Disk.moved", defArgs s_Disk_moved, defBody s_Disk_moved, defScope s_Disk_moved, [], []⟩
def d_Disk_fall : He.DefD := ⟨("Disk", some "fall"), "fall", "Disk.fall", defArgs s_Disk_fall, defBody s_Disk_fall, defScope s_Disk_fall, [], []⟩
def d_Disk_order : He.DefD := ⟨("Disk", some "order"), "order", "Disk.order", defArgs s_Disk_order, defBody s_Disk_order, defScope s_Disk_order, [], []⟩
def d_Disk_spoil : He.DefD := ⟨("Disk", some "spoil"), "spoil", "Disk.spoil", defArgs s_Disk_spoil, defBody s_Disk_spoil, defScope s_Disk_spoil, [], []⟩
def fnD : List He.DefD := [d_is_whole, d_filled, d__law_draws, d__law_draw, d__law_same, d__law_copy, d__law_page, d__law_new_disk, d__law_fallen, d__law_moved, d__law_disk_due, d__law_disk_called, d__law_keeps, d__law_disk_alike, d__law_text, d__law_call, d_law, d_Disk___init__, d_Disk_many, d_Disk_known, d_Disk_read, d_Disk_safe, d_Disk_waits, d_Disk_write, d_Disk_sync, d_Disk_moved, d_Disk_fall, d_Disk_order, d_Disk_spoil]
def faD : List He.Fa := [.glo "is_whole", .glo "filled", .glo "_law_draws", .glo "_law_draw", .glo "_law_same", .glo "_law_copy", .glo "_law_page", .glo "_law_new_disk", .glo "_law_fallen", .glo "_law_moved", .glo "_law_disk_due", .glo "_law_disk_called", .glo "_law_keeps", .glo "_law_disk_alike", .glo "_law_text", .glo "_law_call", .glo "law", .glo "Disk", .glo "RecordWrong", .glo "Fallen", .glo "NetError", .free "len", .free "int", .free "str", .free "bool", .free "dict", .free "list", .free "tuple", .free "range", .free "isinstance", .free "min", .free "max", .free "all", .free "ValueError", .int "SIZE" 384, .cls "Disk", .mkr "Disk", .noat "Disk" "firm", .noat "Disk" "fresh", .noat "Disk" "moves", .noat "Disk" "keeps", .meth "Disk" "many", .meth "Disk" "known", .meth "Disk" "read", .meth "Disk" "safe", .meth "Disk" "waits", .meth "Disk" "write", .meth "Disk" "sync", .meth "Disk" "moved", .meth "Disk" "fall", .meth "Disk" "order", .meth "Disk" "spoil", .exm "RecordWrong" "RecordWrong" true, .exm "Fallen" "RecordWrong" false, .exm "Fallen" "Fallen" true, .keep "Fallen"]
abbrev sRW : Stmt := inClass (top 2) 0
def dLow : Lo.LowD := ⟨"RecordWrong", "at", "RecordWrong.__init__", defArgs sRW, defBody sRW, defScope sRW, "/claim/cut.py"⟩
theorem lowT : Lo.LowT dLow ⟨6, 17, 6, 21⟩ ⟨6, 23, 6, 25⟩ ⟨7, 8, 7, 13⟩ ⟨7, 8, 7, 15⟩ ⟨7, 8, 7, 24⟩ ⟨7, 25, 7, 27⟩ ⟨7, 8, 7, 28⟩ ⟨7, 8, 7, 28⟩ ⟨8, 8, 8, 12⟩ ⟨8, 8, 8, 15⟩ ⟨8, 18, 8, 20⟩ ⟨8, 8, 8, 20⟩ where
  par := rfl
  bod := rfl
  sco := rfl
  bind := fun _ _ _ _ _ _ _ _ _ => rfl
  ev := fun _ => ⟨_, rfl⟩
def exB (K : PySem.W.Frag) : Bool := Lo.lowB K dLow && (PySem.W.excIn K (He.ga K "Fallen") [.type "Exception", .type "BaseException", .type "object"] "Exception.__new__" && (decide (PySem.W.subIn K (.ref (He.ga K "Fallen")) (.type "BaseException") = some true) &&
  (decide (PySem.W.typeIn K (.ref (He.ga K "Fallen")) = some (.type "type")) && (xfB K (He.ga K "RecordWrong") && (decide (PySem.W.findIn K (.ref (He.ga K "RecordWrong")) "at" = some none) && (xcB K (He.ga K "Fallen") &&
  decide (PySem.W.kitAny K (.ref (He.ga K "Fallen")) [.ref (He.ga K "NetError"), .type "ValueError"] = some false)))))))
abbrev R : PySem.W.OpenRow := PySem.W.OpenLaw.row PySem.Challenge.rw_markwalls_k83_a_disk_that_falls
abbrev hk : PySem.W.Hook := Lo.hookL 8 faD fnD [dLow] exB
def ob (s : PySem.W.SharedT) : Lo.AlL := Lo.obsL 8 faD fnD [dLow] exB (HandSHeadRun.getT s)
theorem ob_eq (s : PySem.W.SharedT) : ob s = hk.obs s.abs := Lo.obsL_eq (HandSHeadRun.getT_eq s)
theorem run (w : World) : HandSHeadRun.RunEq R (PySem.W.view R.prog [25]) hk ob 6000 ["NetError", "RecordWrong", "is_whole", "SIZE", "Fallen", "filled", "Disk", "_law_draws", "_law_draw", "_law_same", "_law_copy", "_law_page", "_law_new_disk", "_law_fallen", "_law_moved", "_law_disk_due", "_law_disk_called", "_law_keeps", "_law_disk_alike", "_law_text", "_law_call"] w := by
  intro os
  kernel_rfl
theorem facts {P : Program} {w : World} {K : PySem.W.Frag} {h : Heap} {mg : Str → Option Value} {f : Addr} (hfile : P.main.file = "/claim/cut.py") (htop : (P.main.scope.names.lookup ("super" : Str)).isSome = false) (X : K.In h) (G : h.Ns mainGlobals mg) (hfa : mg ("law" : Str) = some (.ref f)) (cL : Lo.SaysL faD fnD [dLow] exB K) :
    ∃ fd : FuncData, (∀ (s : Shared) (v : Value), BindsTo s fd ⟨[v], []⟩ [("script", v)]) ∧ ∀ base : Heap, K.In base → base.Ns mainGlobals mg → FnOk P w K mg base CX0 9 f fd ["script"] (spLaw K) := by
  have c := cL.d
  have mB := cL.more
  obtain ⟨fd_is_whole, F_is_whole⟩ := c.def_ 0 (d := d_is_whole) rfl
  obtain ⟨fd_filled, F_filled⟩ := c.def_ 1 (d := d_filled) rfl
  obtain ⟨fd__law_draws, F__law_draws⟩ := c.def_ 2 (d := d__law_draws) rfl
  obtain ⟨fd__law_draw, F__law_draw⟩ := c.def_ 3 (d := d__law_draw) rfl
  obtain ⟨fd__law_same, F__law_same⟩ := c.def_ 4 (d := d__law_same) rfl
  obtain ⟨fd__law_copy, F__law_copy⟩ := c.def_ 5 (d := d__law_copy) rfl
  obtain ⟨fd__law_page, F__law_page⟩ := c.def_ 6 (d := d__law_page) rfl
  obtain ⟨fd__law_new_disk, F__law_new_disk⟩ := c.def_ 7 (d := d__law_new_disk) rfl
  obtain ⟨fd__law_fallen, F__law_fallen⟩ := c.def_ 8 (d := d__law_fallen) rfl
  obtain ⟨fd__law_moved, F__law_moved⟩ := c.def_ 9 (d := d__law_moved) rfl
  obtain ⟨fd__law_disk_due, F__law_disk_due⟩ := c.def_ 10 (d := d__law_disk_due) rfl
  obtain ⟨fd__law_disk_called, F__law_disk_called⟩ := c.def_ 11 (d := d__law_disk_called) rfl
  obtain ⟨fd__law_keeps, F__law_keeps⟩ := c.def_ 12 (d := d__law_keeps) rfl
  obtain ⟨fd__law_disk_alike, F__law_disk_alike⟩ := c.def_ 13 (d := d__law_disk_alike) rfl
  obtain ⟨fd__law_text, F__law_text⟩ := c.def_ 14 (d := d__law_text) rfl
  obtain ⟨fd__law_call, F__law_call⟩ := c.def_ 15 (d := d__law_call) rfl
  obtain ⟨fd_law, F_law⟩ := c.def_ 16 (d := d_law) rfl
  obtain ⟨fd_Disk___init__, F_Disk___init__⟩ := c.def_ 17 (d := d_Disk___init__) rfl
  obtain ⟨fd_Disk_many, F_Disk_many⟩ := c.def_ 18 (d := d_Disk_many) rfl
  obtain ⟨fd_Disk_known, F_Disk_known⟩ := c.def_ 19 (d := d_Disk_known) rfl
  obtain ⟨fd_Disk_read, F_Disk_read⟩ := c.def_ 20 (d := d_Disk_read) rfl
  obtain ⟨fd_Disk_safe, F_Disk_safe⟩ := c.def_ 21 (d := d_Disk_safe) rfl
  obtain ⟨fd_Disk_waits, F_Disk_waits⟩ := c.def_ 22 (d := d_Disk_waits) rfl
  obtain ⟨fd_Disk_write, F_Disk_write⟩ := c.def_ 23 (d := d_Disk_write) rfl
  obtain ⟨fd_Disk_sync, F_Disk_sync⟩ := c.def_ 24 (d := d_Disk_sync) rfl
  obtain ⟨fd_Disk_moved, F_Disk_moved⟩ := c.def_ 25 (d := d_Disk_moved) rfl
  obtain ⟨fd_Disk_fall, F_Disk_fall⟩ := c.def_ 26 (d := d_Disk_fall) rfl
  obtain ⟨fd_Disk_order, F_Disk_order⟩ := c.def_ 27 (d := d_Disk_order) rfl
  obtain ⟨fd_Disk_spoil, F_Disk_spoil⟩ := c.def_ 28 (d := d_Disk_spoil) rfl
  have b_is_whole : Binds K fd_is_whole ["thing"] [] := (FunD.bindsN F_is_whole fun _ _ _ _ _ _ us hl => match us, hl with | [_], _ => rfl)
  have b_filled : Binds K fd_filled ["text"] [] := (FunD.bindsN F_filled fun _ _ _ _ _ _ us hl => match us, hl with | [_], _ => rfl)
  have b__law_draws : Binds K fd__law_draws ["script"] [] := (FunD.bindsN F__law_draws fun _ _ _ _ _ _ us hl => match us, hl with | [_], _ => rfl)
  have b__law_draw : Binds K fd__law_draw ["draws", "limit"] [] := (FunD.bindsN F__law_draw fun _ _ _ _ _ _ us hl => match us, hl with | [_, _], _ => rfl)
  have b__law_same : Binds K fd__law_same ["x", "due"] [] := (FunD.bindsN F__law_same fun _ _ _ _ _ _ us hl => match us, hl with | [_, _], _ => rfl)
  have b__law_copy : Binds K fd__law_copy ["thing"] [] := (FunD.bindsN F__law_copy fun _ _ _ _ _ _ us hl => match us, hl with | [_], _ => rfl)
  have b__law_page : Binds K fd__law_page ["text"] [] := (FunD.bindsN F__law_page fun _ _ _ _ _ _ us hl => match us, hl with | [_], _ => rfl)
  have b__law_new_disk : Binds K fd__law_new_disk ["many"] [] := (FunD.bindsN F__law_new_disk fun _ _ _ _ _ _ us hl => match us, hl with | [_], _ => rfl)
  have b__law_fallen : Binds K fd__law_fallen ["own", "keeps"] [] := (FunD.bindsN F__law_fallen fun _ _ _ _ _ _ us hl => match us, hl with | [_, _], _ => rfl)
  have b__law_moved : Binds K fd__law_moved ["own"] [] := (FunD.bindsN F__law_moved fun _ _ _ _ _ _ us hl => match us, hl with | [_], _ => rfl)
  have b__law_disk_due : Binds K fd__law_disk_due ["own", "call"] [] := (FunD.bindsN F__law_disk_due fun _ _ _ _ _ _ us hl => match us, hl with | [_, _], _ => rfl)
  have b__law_disk_called : Binds K fd__law_disk_called ["disk", "call"] [] := (FunD.bindsN F__law_disk_called fun _ _ _ _ _ _ us hl => match us, hl with | [_, _], _ => rfl)
  have b__law_keeps : Binds K fd__law_keeps ["draws", "many"] [] := (FunD.bindsN F__law_keeps fun _ _ _ _ _ _ us hl => match us, hl with | [_, _], _ => rfl)
  have b__law_disk_alike : Binds K fd__law_disk_alike ["own", "disk"] [] := (FunD.bindsN F__law_disk_alike fun _ _ _ _ _ _ us hl => match us, hl with | [_, _], _ => rfl)
  have b__law_text : Binds K fd__law_text ["draws"] [] := (FunD.bindsN F__law_text fun _ _ _ _ _ _ us hl => match us, hl with | [_], _ => rfl)
  have b__law_call : Binds K fd__law_call ["draws", "own"] [] := (FunD.bindsN F__law_call fun _ _ _ _ _ _ us hl => match us, hl with | [_, _], _ => rfl)
  have b_law : Binds K fd_law ["script"] [] := (FunD.bindsN F_law fun _ _ _ _ _ _ us hl => match us, hl with | [_], _ => rfl)
  have b_Disk___init__ : Binds K fd_Disk___init__ ["self", "many"] [] := (FunD.bindsN F_Disk___init__ fun _ _ _ _ _ _ us hl => match us, hl with | [_, _], _ => rfl)
  have b_Disk_many : Binds K fd_Disk_many ["self"] [] := (FunD.bindsN F_Disk_many fun _ _ _ _ _ _ us hl => match us, hl with | [_], _ => rfl)
  have b_Disk_known : Binds K fd_Disk_known ["self", "at"] [] := (FunD.bindsN F_Disk_known fun _ _ _ _ _ _ us hl => match us, hl with | [_, _], _ => rfl)
  have b_Disk_read : Binds K fd_Disk_read ["self", "at"] [] := (FunD.bindsN F_Disk_read fun _ _ _ _ _ _ us hl => match us, hl with | [_, _], _ => rfl)
  have b_Disk_safe : Binds K fd_Disk_safe ["self", "at"] [] := (FunD.bindsN F_Disk_safe fun _ _ _ _ _ _ us hl => match us, hl with | [_, _], _ => rfl)
  have b_Disk_waits : Binds K fd_Disk_waits ["self"] [] := (FunD.bindsN F_Disk_waits fun _ _ _ _ _ _ us hl => match us, hl with | [_], _ => rfl)
  have b_Disk_write : Binds K fd_Disk_write ["self", "at", "text"] [] := (FunD.bindsN F_Disk_write fun _ _ _ _ _ _ us hl => match us, hl with | [_, _, _], _ => rfl)
  have b_Disk_sync : Binds K fd_Disk_sync ["self"] [] := (FunD.bindsN F_Disk_sync fun _ _ _ _ _ _ us hl => match us, hl with | [_], _ => rfl)
  have b_Disk_moved : Binds K fd_Disk_moved ["self"] [] := (FunD.bindsN F_Disk_moved fun _ _ _ _ _ _ us hl => match us, hl with | [_], _ => rfl)
  have b_Disk_fall : Binds K fd_Disk_fall ["self", "keeps"] [] := (FunD.bindsN F_Disk_fall fun _ _ _ _ _ _ us hl => match us, hl with | [_, _], _ => rfl)
  have b_Disk_order : Binds K fd_Disk_order ["self", "moves", "keeps"] [] := (FunD.bindsN F_Disk_order fun _ _ _ _ _ _ us hl => match us, hl with | [_, _, _], _ => rfl)
  have b_Disk_spoil : Binds K fd_Disk_spoil ["self", "at", "place", "sign"] [] := (FunD.bindsN F_Disk_spoil fun _ _ _ _ _ _ us hl => match us, hl with | [_, _, _, _], _ => rfl)
  have g_is_whole : mg "is_whole" = some (.ref (He.ga K "is_whole")) := He.glo_ok X G (c.fact 0 (f := .glo "is_whole") rfl)
  have g_filled : mg "filled" = some (.ref (He.ga K "filled")) := He.glo_ok X G (c.fact 1 (f := .glo "filled") rfl)
  have g__law_draws : mg "_law_draws" = some (.ref (He.ga K "_law_draws")) := He.glo_ok X G (c.fact 2 (f := .glo "_law_draws") rfl)
  have g__law_draw : mg "_law_draw" = some (.ref (He.ga K "_law_draw")) := He.glo_ok X G (c.fact 3 (f := .glo "_law_draw") rfl)
  have g__law_same : mg "_law_same" = some (.ref (He.ga K "_law_same")) := He.glo_ok X G (c.fact 4 (f := .glo "_law_same") rfl)
  have g__law_copy : mg "_law_copy" = some (.ref (He.ga K "_law_copy")) := He.glo_ok X G (c.fact 5 (f := .glo "_law_copy") rfl)
  have g__law_page : mg "_law_page" = some (.ref (He.ga K "_law_page")) := He.glo_ok X G (c.fact 6 (f := .glo "_law_page") rfl)
  have g__law_new_disk : mg "_law_new_disk" = some (.ref (He.ga K "_law_new_disk")) := He.glo_ok X G (c.fact 7 (f := .glo "_law_new_disk") rfl)
  have g__law_fallen : mg "_law_fallen" = some (.ref (He.ga K "_law_fallen")) := He.glo_ok X G (c.fact 8 (f := .glo "_law_fallen") rfl)
  have g__law_moved : mg "_law_moved" = some (.ref (He.ga K "_law_moved")) := He.glo_ok X G (c.fact 9 (f := .glo "_law_moved") rfl)
  have g__law_disk_due : mg "_law_disk_due" = some (.ref (He.ga K "_law_disk_due")) := He.glo_ok X G (c.fact 10 (f := .glo "_law_disk_due") rfl)
  have g__law_disk_called : mg "_law_disk_called" = some (.ref (He.ga K "_law_disk_called")) := He.glo_ok X G (c.fact 11 (f := .glo "_law_disk_called") rfl)
  have g__law_keeps : mg "_law_keeps" = some (.ref (He.ga K "_law_keeps")) := He.glo_ok X G (c.fact 12 (f := .glo "_law_keeps") rfl)
  have g__law_disk_alike : mg "_law_disk_alike" = some (.ref (He.ga K "_law_disk_alike")) := He.glo_ok X G (c.fact 13 (f := .glo "_law_disk_alike") rfl)
  have g__law_text : mg "_law_text" = some (.ref (He.ga K "_law_text")) := He.glo_ok X G (c.fact 14 (f := .glo "_law_text") rfl)
  have g__law_call : mg "_law_call" = some (.ref (He.ga K "_law_call")) := He.glo_ok X G (c.fact 15 (f := .glo "_law_call") rfl)
  have g_law : mg "law" = some (.ref (He.ga K "law")) := He.glo_ok X G (c.fact 16 (f := .glo "law") rfl)
  have g_Disk : mg "Disk" = some (.ref (He.ga K "Disk")) := He.glo_ok X G (c.fact 17 (f := .glo "Disk") rfl)
  have g_RecordWrong : mg "RecordWrong" = some (.ref (He.ga K "RecordWrong")) := He.glo_ok X G (c.fact 18 (f := .glo "RecordWrong") rfl)
  have g_Fallen : mg "Fallen" = some (.ref (He.ga K "Fallen")) := He.glo_ok X G (c.fact 19 (f := .glo "Fallen") rfl)
  have g_NetError : mg "NetError" = some (.ref (He.ga K "NetError")) := He.glo_ok X G (c.fact 20 (f := .glo "NetError") rfl)
  have M_many : Meth K (He.ga K "Disk") "many" (He.ma K (He.ga K "Disk") "many") := He.meth_ok (c.fact 41 (f := .meth "Disk" "many") rfl)
  have M_known : Meth K (He.ga K "Disk") "known" (He.ma K (He.ga K "Disk") "known") := He.meth_ok (c.fact 42 (f := .meth "Disk" "known") rfl)
  have M_read : Meth K (He.ga K "Disk") "read" (He.ma K (He.ga K "Disk") "read") := He.meth_ok (c.fact 43 (f := .meth "Disk" "read") rfl)
  have M_safe : Meth K (He.ga K "Disk") "safe" (He.ma K (He.ga K "Disk") "safe") := He.meth_ok (c.fact 44 (f := .meth "Disk" "safe") rfl)
  have M_waits : Meth K (He.ga K "Disk") "waits" (He.ma K (He.ga K "Disk") "waits") := He.meth_ok (c.fact 45 (f := .meth "Disk" "waits") rfl)
  have M_write : Meth K (He.ga K "Disk") "write" (He.ma K (He.ga K "Disk") "write") := He.meth_ok (c.fact 46 (f := .meth "Disk" "write") rfl)
  have M_sync : Meth K (He.ga K "Disk") "sync" (He.ma K (He.ga K "Disk") "sync") := He.meth_ok (c.fact 47 (f := .meth "Disk" "sync") rfl)
  have M_moved : Meth K (He.ga K "Disk") "moved" (He.ma K (He.ga K "Disk") "moved") := He.meth_ok (c.fact 48 (f := .meth "Disk" "moved") rfl)
  have M_fall : Meth K (He.ga K "Disk") "fall" (He.ma K (He.ga K "Disk") "fall") := He.meth_ok (c.fact 49 (f := .meth "Disk" "fall") rfl)
  have M_order : Meth K (He.ga K "Disk") "order" (He.ma K (He.ga K "Disk") "order") := He.meth_ok (c.fact 50 (f := .meth "Disk" "order") rfl)
  have M_spoil : Meth K (He.ga K "Disk") "spoil" (He.ma K (He.ga K "Disk") "spoil") := He.meth_ok (c.fact 51 (f := .meth "Disk" "spoil") rfl)
  unfold exB at mB
  simp only [Bool.and_eq_true, decide_eq_true_eq] at mB
  obtain ⟨x1, x2, x3, x4, x5, x6, x7, x8⟩ := mB
  have low := Lo.low_of (P := P) lowT (cL.get (d := dLow) List.mem_cons_self) x1 hfile htop
  have B : Blt mg := ⟨He.free_ok X G (c.fact 21 (f := .free "len") rfl), He.free_ok X G (c.fact 22 (f := .free "int") rfl), He.free_ok X G (c.fact 23 (f := .free "str") rfl), He.free_ok X G (c.fact 24 (f := .free "bool") rfl), He.free_ok X G (c.fact 25 (f := .free "dict") rfl), He.free_ok X G (c.fact 26 (f := .free "list") rfl), He.free_ok X G (c.fact 27 (f := .free "tuple") rfl), He.free_ok X G (c.fact 28 (f := .free "range") rfl), He.free_ok X G (c.fact 29 (f := .free "isinstance") rfl), He.free_ok X G (c.fact 30 (f := .free "min") rfl), He.free_ok X G (c.fact 31 (f := .free "max") rfl), He.free_ok X G (c.fact 32 (f := .free "all") rfl)⟩
  have TT : T83 P K mg (He.ga K "Disk") (He.ga K "RecordWrong") (He.ga K "Fallen") (Lo.faI K "RecordWrong") := { toBlt := B, sz := He.int_ok X G (c.fact 34 (f := .int "SIZE" 384) rfl), lowR := low, gR := g_RecordWrong, gF := g_Fallen, xF := x2, kF := He.keep_ok (c.fact 55 (f := .keep "Fallen") rfl), rF := ⟨x3, x4⟩, cl := He.cls_ok (c.fact 35 (f := .cls "Disk") rfl), n1 := He.noat_ok (c.fact 37 (f := .noat "Disk" "firm") rfl), n2 := He.noat_ok (c.fact 38 (f := .noat "Disk" "fresh") rfl), n3 := He.noat_ok (c.fact 39 (f := .noat "Disk" "moves") rfl), n4 := He.noat_ok (c.fact 40 (f := .noat "Disk" "keeps") rfl), xfR := xfB_ok x5, xnR := x6, mRR := He.exm_ok (c.fact 52 (f := .exm "RecordWrong" "RecordWrong" true) rfl), mFR := He.exm_ok (c.fact 53 (f := .exm "Fallen" "RecordWrong" false) rfl), mFF := He.exm_ok (c.fact 54 (f := .exm "Fallen" "Fallen" true) rfl) }
  have e := hfa.symm.trans g_law
  cases e
  have bl := FunD.bindsA (ps := ["script"]) F_law fun _ _ _ _ _ _ us hl => match us, hl with | [_], _ => rfl
  refine ⟨fd_law, fun s v => bl s [v] rfl, fun base _ _ => ?_⟩
  have G1 : DefOk P w K mg base CX0 1 "is_whole" ["thing"] spWhole := ok_whole F_is_whole g_is_whole b_is_whole B
  have G2 : DefOk P w K mg base CX0 1 "filled" ["text"] spFilled := ok_filled F_filled g_filled b_filled B TT.sz
  have G3 : DefOk P w K mg base CX0 1 "_law_draws" ["script"] (spDraws K) := ok_draws F__law_draws g__law_draws b__law_draws B
  have G4 : DrawOk P w K mg base := ok_draw F__law_draw g__law_draw b__law_draw B
  have G5 : DefOk P w K mg base CX0 1 "_law_page" ["text"] spPage := ok_page F__law_page g__law_page b__law_page B
  have K1 : Known P w K mg base (He.ga K "Disk") (He.ga K "RecordWrong") (He.ga K "Fallen") := ok_known F_Disk_known M_known b_Disk_known TT G1
  have M1 := ok_many (P := P) (w := w) (base := base) F_Disk_many M_many b_Disk_many TT
  have M2 := ok_read F_Disk_read M_read b_Disk_read TT K1
  have M3 := ok_safe F_Disk_safe M_safe b_Disk_safe TT K1
  have M4 := ok_waits (P := P) (w := w) (base := base) F_Disk_waits M_waits b_Disk_waits TT
  have M5 := ok_fall (P := P) (w := w) (base := base) F_Disk_fall M_fall b_Disk_fall TT
  have M6 := ok_order (P := P) (w := w) (base := base) F_Disk_order M_order b_Disk_order TT
  have M7 := ok_moved F_Disk_moved M_moved b_Disk_moved TT M5
  have M8 := ok_write F_Disk_write M_write b_Disk_write TT K1 G2 M7
  have M9 := ok_sync F_Disk_sync M_sync b_Disk_sync TT M7
  have M10 := ok_spoil F_Disk_spoil M_spoil b_Disk_spoil TT K1
  have D1 := ok_init F_Disk___init__ (He.mkr_ok (c.fact 36 (f := .mkr "Disk") rfl)) g_Disk b_Disk___init__ TT G2
  have N1 := ok_new F__law_new_disk g__law_new_disk b__law_new_disk B G5
  have L1 := ok_fallen (P := P) (w := w) (base := base) F__law_fallen g__law_fallen b__law_fallen B
  have L2 := ok_movedO F__law_moved g__law_moved b__law_moved B L1
  have L3 := ok_due F__law_disk_due g__law_disk_due b__law_disk_due B G5 L1 L2
  have L4 := ok_keeps F__law_keeps g__law_keeps b__law_keeps B G4
  have L5 := ok_text F__law_text g__law_text b__law_text B G4
  have L6 := ok_call F__law_call g__law_call b__law_call B G4 L5 L4
  have C0 := ok_copy0 (P := P) (w := w) (base := base) F__law_copy g__law_copy b__law_copy
  have C1 := ok_copyS (n := 0) F__law_copy g__law_copy b__law_copy B C0
  have C2 := ok_copyS (n := 1) F__law_copy g__law_copy b__law_copy B C1
  have C3 := ok_copyS (n := 2) F__law_copy g__law_copy b__law_copy B C2
  have S0 := ok_same0 (P := P) (w := w) (base := base) F__law_same g__law_same b__law_same
  have S1 := ok_sameS (n := 0) F__law_same g__law_same b__law_same B S0
  have S2 := ok_sameS (n := 1) F__law_same g__law_same b__law_same B S1
  have S3 := ok_sameS (n := 2) F__law_same g__law_same b__law_same B S2
  have Q1 := ok_called F__law_disk_called g__law_disk_called b__law_disk_called TT M8 M2 M3 M9 M5 M6 M10
  have Q2 := ok_alike F__law_disk_alike g__law_disk_alike b__law_disk_alike TT M1 M4 M2 M3 S3
  exact ok_law F_law TT g_NetError (He.free_ok X G (c.fact 33 (f := .free "ValueError") rfl)) x7 x8 G3 G4 N1 D1 L6 C3 Q1 L3 S3 Q2
end MK
open PySem PySem.W PySem.Calls PyProof.Rows
theorem PySem.Challenge.cw_markwalls_k83_a_disk_that_falls_holds : PySem.Challenge.rw_markwalls_k83_a_disk_that_falls.Holds := by
  w_on; o_law
  refine HandSHeadRun.head_any (r := OpenLaw.row PySem.Challenge.rw_markwalls_k83_a_disk_that_falls) (q := view (OpenLaw.row PySem.Challenge.rw_markwalls_k83_a_disk_that_falls).prog [25]) (H := MK.hk) (ob := MK.ob) (M := 6000) (loose := ["NetError", "RecordWrong", "is_whole", "SIZE", "Fallen", "filled", "Disk", "_law_draws", "_law_draw", "_law_same", "_law_copy", "_law_page", "_law_new_disk", "_law_fallen", "_law_moved", "_law_disk_due", "_law_disk_called", "_law_keeps", "_law_disk_alike", "_law_text", "_law_call"]) (d := HandSHeadRun.topDef (OpenLaw.row PySem.Challenge.rw_markwalls_k83_a_disk_that_falls).prog 25) (kwd := []) MK.ob_eq
    (by kernel_rfl) (fun s => by kernel_rfl) MK.run (by kernel_rfl) (by kernel_rfl) (by kernel_rfl) (by rfl) (by first | assumption | decide +kernel) (by decide +kernel) ⟨rfl, rfl, rfl, rfl, rfl, by decide +kernel⟩ ?hw ?hc
  case hw => w_witness2
  case hc =>
    refine L2.walk_ofE (l := PySem.Challenge.rw_markwalls_k83_a_disk_that_falls) (n := 63) (k := 9) (x := "script") (CX := L2.CX0) rfl (by decide) (by kernel_rfl) ⟨rfl, by decide, by decide⟩ ?F (fun _ _ _ _ z => z)
    intro w mg fa h Y G hmg0
    obtain ⟨K, KX, c⟩ := Y
    have hmg : mg ("law" : PySem.Str) = some (.ref fa) := by
      have e : (HandSHeadRun.topDef (OpenLaw.row PySem.Challenge.rw_markwalls_k83_a_disk_that_falls).prog 25).name = ("law" : PySem.Str) := by kernel_rfl
      rw [← e]
      exact hmg0
    obtain ⟨fd, hb, hF⟩ := MK.facts (P := (PySem.Challenge.rw_markwalls_k83_a_disk_that_falls).prog) (w := w) (by kernel_rfl) (by decide +kernel) KX G hmg c
    exact ⟨K, fd, MK.spLaw K, KX, hb, fun H a ns hl _ hS => ⟨a, ns, rfl, hS, fun _ => rfl⟩, hF⟩

