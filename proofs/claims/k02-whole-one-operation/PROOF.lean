import PyProof.Rows.All
import Wide.All
import OpenK.AllK
import Wide.FinOn
import PyProof.EqAt
import PyProof.EqKinds
import PyProof.TupleCall
import KE.KCallOwn
import HandS.ForExc
import HandS.ClsMeth
import HandS.IsInst
import KE.KExcSuper
import HandS.ExcInit
import KE.KExcIs
import HandS.TryMany
import HandS.ExcIs
import HandS.ExcField
import HandS.HotCalls
import HandS.Text
import HandS.ForMost
import HandS.StrMore
import HandS.Conv
import PySem.Challenge.RW_latelink_k02_whole_one_operation
set_option Elab.async false
set_option linter.all false
set_option maxRecDepth 100000
set_option maxHeartbeats 4000000
namespace LL
open PySem PySem.Spec PyProof.Rows L2
section
variable {X : Cx} {CX : CXT} {k : Nat} {C f p g : Addr} {mc : Value} {fd : FuncData} {ps : List Str} {sp : Sp} {E : XK} {pins : List (Addr × Obj)} {σ : L2.St} {H : Hp} {s : Shared} {Q : VK} {us : List Value} {vs : List V}
/-- the callee runs, somewhere below the body -/
theorem run_at {A : Around} (hfr : A.frames = X.A.frames) (F : FnOk X.prog X.w X.K X.mg X.base CX k f fd ps sp) (hr : Room k A) (hb : Binds X.K fd ps []) (hx : Passes CX X E)
    (I : Inv X pins σ H s) (r : Vals vs us) (h : sp vs H Q E) : wpAny (model X.prog X.w) A (call (.ref f) us) (EP X pins σ Q) X.xe s := by
  have hl : us.length = ps.length := by rw [← r.length]; exact F.len _ _ _ _ h
  have b := hb s us I.kIn (by rw [List.append_nil]; exact hl)
  rw [List.append_nil] at b
  have e0 : Env0 X.prog X.w X.K X.mg X.base A X.stack s H := by
    have e := I.env0
    exact ⟨by rw [hfr]; exact e.frames, e.mod, e.bs, e.bsz, e.funs, e.frf, e.hok, e.bare⟩
  refine wpAny_call (codeAny_mono (F.run A X.stack s H ⟨us, []⟩ us vs Q E hr e0 b r h) fun r s' hq => ?_)
  cases r with
  | error e => exact hx pins σ H s e s' I hq
  | ok fl =>
    cases fl with
    | ret u => exact I.after hq
    | next => exact False.elim hq
    | brk => exact False.elim hq
    | cont => exact False.elim hq
/-- what an instance's own special method is asked for -/
structure Spc (K : PySem.W.Frag) (C : Addr) (m : Str) (f : Addr) : Prop where
  at_ : PySem.W.findIn K (.ref C) m = some (some (.ref f))
  fn : PySem.W.isFn K (.ref f) = true
def rLenO (C : Addr) (sp : Sp) (E : XK) : List V → Hp → VK → Prop := fun xs H Q => ∃ a dx fs, xs = [V.ref a] ∧ H a = some (.ins C dx fs) ∧ sp [V.ref a] H (fun v H' => ∃ n : Int, v = .int n ∧ 0 ≤ n ∧ n < 2 ^ 63 ∧ Q (.int n) H') E
theorem call_lenO (c : Spc X.K C "__len__" f) (F : FnOk X.prog X.w X.K X.mg X.base CX k f fd ps sp) (hr : Room (k + 1) X.A) (hb : Binds X.K fd ps []) (hx : Passes CX X E) : CallR X (.builtin "len") (rLenO C sp E) := by
  intro pins s σ H xs us Q I r h
  obtain ⟨a, dx, fs, rfl, ha, q⟩ := h
  obtain ⟨u, rfl, r1⟩ := vals1 r
  cases r1
  obtain ⟨mA, J, _⟩ := ins_get I.hok ha
  obtain ⟨od, J, _⟩ := J.look
  obtain ⟨m, hF⟩ := I.fr
  refine PySem.W.len_K hF I.ok.mod.kin J c.at_ c.fn (thn (run_at (A := X.A.in1) (vs := [V.ref a]) rfl F hr.in1 hb hx I (.cons rfl .nil) q) fun v s' hv => ?_)
  obtain ⟨z, H', I', rz, n, ez, h0, h1, q'⟩ := hv
  subst ez
  obtain ⟨t, rfl⟩ := rz
  exact ⟨⟨h0, h1⟩, .int n, H', I'.tok _, ⟨_, rfl⟩, q'⟩
def rStrO (C : Addr) (sp : Sp) (E : XK) : List V → Hp → VK → Prop := fun xs H Q => ∃ a dx fs, xs = [V.ref a] ∧ H a = some (.ins C dx fs) ∧ sp [V.ref a] H (fun v H' => ∃ n : Str, v = .str n ∧ Q (.str n) H') E
theorem call_strO (c : Spc X.K C "__str__" f) (F : FnOk X.prog X.w X.K X.mg X.base CX k f fd ps sp) (hr : Room (k + 2) X.A) (hb : Binds X.K fd ps []) (hx : Passes CX X E) : CallR X (.type "str") (rStrO C sp E) := by
  intro pins s σ H xs us Q I r h
  obtain ⟨a, dx, fs, rfl, ha, q⟩ := h
  obtain ⟨u, rfl, r1⟩ := vals1 r
  cases r1
  obtain ⟨mA, J, _⟩ := ins_get I.hok ha
  obtain ⟨od, J, _⟩ := J.look
  have hu : X.A.in1.in1.units < cLine := by
    have := hr.in1.in1.units
    omega
  refine PySem.W.kso_call hu I.kIn J c.at_ c.fn (thn (run_at (A := X.A.in1.in1) (vs := [V.ref a]) rfl F hr.in1.in1 hb hx I (.cons rfl .nil) q) fun v s' hv => ?_)
  obtain ⟨z, H', I', rz, n, ez, q'⟩ := hv
  subst ez
  obtain ⟨t, rfl⟩ := rz
  exact ⟨.str n, H', I', ⟨_, rfl⟩, q'⟩
/-- the other side of an own ==: its type is not one that is asked first -/
inductive OthT (K : PySem.W.Frag) (C : Addr) (H : Hp) : V → Prop
  | ins {b dx : Addr} {fs : List (Str × V)} (h : H b = some (.ins C dx fs)) : OthT K C H (.ref b)
  | int (i : Int) (h : PySem.W.notFirst K C (.type "int") = true) : OthT K C H (.int i)
  | str (z : Str) (h : PySem.W.notFirst K C (.type "str") = true) : OthT K C H (.str z)
def rEqO (K : PySem.W.Frag) (C : Addr) (sp : Sp) (E : XK) : R2 := fun x y H Q => ∃ a dx fs, x = V.ref a ∧ H a = some (.ins C dx fs) ∧ OthT K C H y ∧ sp [V.ref a, y] H (fun v H' => ∃ b : Bool, v = .bl b ∧ Q (.bl b) H') E
theorem op_eqO (c : Spc X.K C "__eq__" f) (F : FnOk X.prog X.w X.K X.mg X.base CX k f fd ps sp) (hr : Room k X.A) (hb : Binds X.K fd ps []) (hx : Passes CX X E) : OpR X (compareOp .Eq) (rEqO X.K C sp E) := by
  intro pins s σ H x y v u Q I rx ry h
  obtain ⟨a, dx, fs, rfl, ha, hy, q⟩ := h
  cases rx
  obtain ⟨mA, J, _⟩ := ins_get I.hok ha
  obtain ⟨od, J, _⟩ := J.look
  obtain ⟨m, hF⟩ := I.fr
  have fin : wpAny (model X.prog X.w) X.A (call (.ref f) [.ref a, u]) (PySem.W.CmpBack (EP X pins σ Q)) X.xe s := by
    refine thn (run_at (vs := [V.ref a, y]) rfl F hr hb hx I (.cons rfl (.cons ry .nil)) q) fun v s' hv => ?_
    obtain ⟨z, H', I', rz, b, ez, q'⟩ := hv
    subst ez
    cases rz
    exact ⟨.bl b, H', I', rfl, q'⟩
  show wpAny (model X.prog X.w) X.A (richCompare .Eq (.ref a) u) (EP X pins σ Q) X.xe s
  cases hy with
  | @ins b dy gs hb' =>
    cases ry
    obtain ⟨mB, J', _⟩ := ins_get I.hok hb'
    obtain ⟨od', J', _⟩ := J'.look
    exact PySem.W.cmp_K (op := .Eq) (tb := .ref C) hr.units0 hF I.ok.mod.kin J J'.type (by simp [PySem.W.notFirst]) c.at_ c.fn fin
  | int i hn =>
    obtain ⟨t, rfl⟩ := ry
    exact PySem.W.cmp_K (op := .Eq) (tb := .type "int") hr.units0 hF I.ok.mod.kin J ((PySem.W.kitx_int (K := X.K)).ty _ _ I.kIn True.intro) hn c.at_ c.fn fin
  | str z hn =>
    obtain ⟨t, rfl⟩ := ry
    exact PySem.W.cmp_K (op := .Eq) (tb := .type "str") hr.units0 hF I.ok.mod.kin J ((PySem.W.kitx_str (K := X.K)).ty _ _ I.kIn True.intro) hn c.at_ c.fn fin
/-- C.m is a static method: its record at p, its def at g -/
structure SMet (K : PySem.W.Frag) (C : Addr) (mc : Value) (m : Str) (p g : Addr) : Prop where
  at_ : PySem.W.findCls K (.ref C) mc m = some (.get (.builtin "staticmethod.__get__") (.ref p) .none (.ref C))
  rc : ∃ rest, PySem.W.recIn K p "staticmethod" = some (.ref g :: rest)
  kp : PySem.W.keepIn K (.ref g) = true
theorem getsm_ok {m : Str} {pl : Sem Bool} {A : Around} {E : Value → Shared → Prop} {Q : Value × List Value → Shared → Prop} (I : Inv X pins σ H s) (r : ClX.CRead X.K C mc) (c : SMet X.K C mc m p g)
    (h : ∀ s', Inv X pins σ H s' → Q (.ref g, []) s') : wpAny (model X.prog X.w) A (getMethod (.ref C) m pl) Q E s := by
  obtain ⟨rest, hp⟩ := c.rc
  refine PySem.W.method_cls I.kIn r.ga (PySem.W.cls_bind I.kIn r.rd c.at_ ?_)
  exact wpAny_call (PySem.W.sm_get (s := { s with toks := s.toks + 1 }) I.kIn hp (PySem.W.handed_on rfl (h _ (I.tok _))))
/-- e.m(..), e the class at C, m a static method -/
def tSMeth (C : Addr) (sp : Sp) (E : XK) (ta : TE) (t : TA) : TE := fun σ H Q => ta σ H fun x H1 => x = .ref C ∧ t σ H1 fun vs H2 => sp vs H2 Q E
theorem pe_smeth {o e : Expr} {es : List Expr} {m : Str} {pos apos : Pos} {ta : TE} {t : TA} {pl : Sem Bool} (he : PE X o ta) (r : ClX.CRead X.K C mc) (c : SMet X.K C mc m p g) (F : FnOk X.prog X.w X.K X.mg X.base CX k g fd ps sp) (hr : Room k X.A)
    (hb : Binds X.K fd ps []) (hx : Passes CX X E) (ha : PA X (e :: es) t)
    (hst : starEach (e :: es) X.env = (false, eval e X.env) :: starEach es X.env := by rfl) (hpl : (backTo pos (starEach es X.env)).any (·.1) = false := by rfl)
    (ht : eval (.Call (.Attribute o m apos) (e :: es) [] pos) X.env = (do
      let ov ← eval o X.env
      standAt apos.atName
      let (f, first) ← holding [ov] (getMethod ov m pl)
      callWith pos f first (backTo pos (starEach (e :: es) X.env)) (backToKw pos (keywordEach [] X.env))) := by rfl) :
    PE X (.Call (.Attribute o m apos) (e :: es) [] pos) (tSMeth C sp E ta t) := by
  refine ⟨fun pins s σ H Q I h => ?_⟩
  refine PySem.W.methodCall_KW (pl := pl) (thn (he.run pins s σ H _ I h) fun u s1 hh => ?_) ht
  obtain ⟨x, H1, I1, rx, ex, q⟩ := hh
  subst ex
  obtain rfl : u = Value.ref C := rx
  refine getsm_ok I1 r c fun s2 I2 => ?_
  refine PySem.W.callWith_K (first := []) (h₀ := X.base) I.ok.mod.kin c.kp (thn (ha.run pos pins s2 σ H1 _ I2 q) fun us s3 hh => ?_) hst hpl
  obtain ⟨vs, H2, I3, rv, q2⟩ := hh
  exact ⟨I3.kIn, run_at rfl F hr hb hx I3 rv q2⟩
end
end LL
/-! ### errors of one's own over ValueError: super().__init__('..'), then the fields -/
namespace LL
open PySem PySem.W PySem.Calls PyProof.Rows PySem.HandSPX
def sup1 (msg : Str) (p0 p1 p2 p3 p4 p5 : Pos) : Stmt := .Expr (.Call (.Attribute (.Call (.Name "super" p0) [] [] p1) "__init__" p2) [.Constant (.str msg) 0 p3] [] p4) p5
def sto1 (f : Str) (q1 q2 q3 q4 : Pos) : Stmt := .Assign [.Attribute (.Name "self" q1) f q2] (.Name f q3) q4
/-- what is told of an exception's own dict -/
def mapOf : List (Str × Value) → Str → Option Value
  | [], _ => none
  | (f, v) :: r, y => if y = f then some v else mapOf r y
structure ExC (K : Frag) (C : Addr) : Prop where
  cls : ∃ nm q N bs bm sn sub ab col dd k0 k1 k2 k3 k5, K.lookup C = some (excClassObj nm q C N bs bm true sn sub ab col dd k0 k1 k2 k3 k5 "ValueError.__new__") ∧ refsVE bm = true ∧ alongIn K "__init__" bm = some (some (.builtin "ValueError.__init__"))
  sa : findIn K (.ref C) "__setattr__" = some (some (.builtin "object.__setattr__"))
  exC : subIn K (.ref C) (.type "BaseException") = some true
  veC : subIn K (.ref C) (.type "ValueError") = some true
  tyC : typeIn K (.ref C) = some (.type "type")
  kC : keepIn K (.ref C) = true
  opq : nsIn K cStatics "thirdparty.any" = some none
section
variable {prog : Program} {w : World} {M : Model} {A : Around} {E : Value → Shared → Prop} {h : Heap} {g : Array GenState} {d : Drawn} {t : Nat} {os : OsState}
variable {nm q : Str} {C N : Addr} {bs bm : List Value} {hdct : Bool} {sn : List Str} {sub : List Value} {ab : Bool} {col : Option Bool} {dd : Option Addr} {k0 k1 k2 k3 k5 : Option Value}
/-- the built-in __init__ bound to the error, called: its args are laid anew -/
theorem call_mw {u e t0 : Addr} {rest : List Value} {Q : Value → Shared → Prop}
    (hC : h.get? C = some (excClassObj nm q C N bs bm hdct sn sub ab col dd k0 k1 k2 k3 k5 "ValueError.__new__")) (he : h.get? e = some (excO C t0)) (hu : h.get? u = some (kxs_mw "ValueError.__init__" e)) (hrest : rest.length ≤ sizeLine)
    (hq : ∀ h' t1, (∀ b o, b ≠ e → h.get? b = some o → h'.get? b = some o) → h'.get? e = some (excO C t1) → h.objs.size ≤ h'.objs.size → Q .none ⟨h', g, d, t, os⟩) :
    wpAny (model prog w) A (call (.ref u) rest) Q E ⟨h, g, d, t, os⟩ := by
  refine wpAny_call (codeAny_of_tree ?_)
  show wpAny _ A.in1 (callAny (.ref u) ⟨rest, []⟩) _ _ _
  simp only [callAny]
  refine wpAny_bind (wpAny_load hu ?_)
  simp only [kxs_mw, show (Value.type "method-wrapper" == Value.type "method" || Value.type "method-wrapper" == Value.type "builtin_function_or_method" || Value.type "method-wrapper" == Value.type "method-wrapper") = true by decide, if_true]
  refine W.KFB.if_so (by decide) ?_
  refine wpAny_bind (check_bound_init F.excBase_ValueError.toExcCallFacts hC he rfl ?_)
  refine wpAny_bind (wpAny_pure (wpAny_pure ?_))
  refine ⟨plainId_quiet F.excBase_ValueError.init.plain _, codeAny_builtin F.excBase_ValueError.initEntry ?_⟩
  exact exc_init_tree (cls := .ref C) (t0 := t0) (dv := none) (c2 := .none) (c3 := .none) (b4 := .bool false) he hrest fun h' k e' e2 => hq h' _ k e' (Nat.le_of_lt (Heap.lt_size e2))
end
section
variable {prog : Program} {w : World} {A : Around} {E : Value → Shared → Prop} {s : Shared} {K : Frag} {C x t0 : Addr}
/-- super().__init__('..') -/
theorem sup_walk {mg mb : Str → Option Value} {body : List Stmt} {qual : Str} {scope : Scope} {L fI cc cda : Addr} {fd : FuncData} {m : Str → Option Value} {msg : Str} {p0 p1 p2 p3 p4 p5 : Pos} {vs : Array Value} {file : Str} {tf : Tok} {oc ccl cl : Value} {od cdd cld : Option Addr} {osl ccs csl : Array (Option Value)} {ar : Arg} {Q : Flow → Shared → Prop}
    (T : ExC K C) (X : K.In s.heap) (hg : s.heap.Ns mainGlobals mg) (hmg : mg "super" = none) (hb : s.heap.Ns builtinsNs mb) (hmb : mb "super" = some (.type "super")) (hn : s.heap.Ns L m)
    (hf : K.lookup fI = some ⟨oc, od, .func fd, osl⟩) (hp : (fd.params.posonlyargs ++ fd.params.args).head? = some ar) (hv : m ar.arg = some (.ref x)) (hx : s.heap.get? x = some (excO C t0))
    (hcode : K.lookup cda = some ⟨ccl, cdd, .fields vs, ccs⟩) (hvs : vs[2]? = some (.str file tf)) (hfile : ((prog.main.file : Str) == file) = true) (hcell : K.lookup cc = some ⟨cl, cld, .cell (some (.ref C)), csl⟩)
    {pl : Sem Bool}
    (hev : eval (.Call (.Attribute (.Call (.Name "super" p0) [] [] p1) "__init__" p2) [.Constant (.str msg) 0 p3] [] p4) (ksEnv qual scope L fI (.ref cda) cc) = (do
      let ov ← attributeBase (.Call (.Name "super" p0) [] [] p1) "__init__" (ksEnv qual scope L fI (.ref cda) cc) (eval (.Call (.Name "super" p0) [] [] p1) (ksEnv qual scope L fI (.ref cda) cc))
      standAt p2.atName
      let (f, first) ← holding [ov] (getMethod ov "__init__" pl)
      callWith p4 f first (backTo p4 (starEach [.Constant (.str msg) 0 p3] (ksEnv qual scope L fI (.ref cda) cc))) []))
    (htop : (prog.main.scope.names.lookup ("super" : Str)).isSome = false) (hks : scope.names.lookup ("super" : Str) = some .globalImplicit) (hkc : scope.names.lookup ("__class__" : Str) = some .free) (hka : scope.names.lookup ar.arg = some .local) (hk : scope.kind = .function)
    (h : ∀ h' tk t1, (∀ b o, b ≠ x → s.heap.get? b = some o → h'.get? b = some o) → h'.get? x = some (excO C t1) → s.heap.objs.size ≤ h'.objs.size → Q .next { s with heap := h', toks := tk }) :
    _root_.PySem.wpAt (model prog w) A (.func body (ksEnv qual scope L fI (.ref cda) cc)) (exec (sup1 msg p0 p1 p2 p3 p4 p5) (ksEnv qual scope L fI (.ref cda) cc)) Q E s := by
  obtain ⟨nm, q, N, bs, bm, sn, sub, ab, col, dd, k0, k1, k2, k3, k5, hC, hbm, hal⟩ := T.cls
  have hcl : clsIn K C = some { name := nm, bases := bs, mro := .ref C :: bm, ns := N, qualname := q, hasDict := true, slotNames := sn, subclasses := sub, abstract := ab, collection := col, hasDel := false } := by unfold clsIn; rw [hC] <;> rfl
  have hsub : mroIn K C (.ref C) = some true := by
    unfold mroIn
    rw [hcl, Option.bind_some, if_neg (show ¬ (List.isEmpty (Value.ref C :: bm) = true) from Bool.false_ne_true)]
    simp
  unfold sup1
  obtain ⟨hp0, g, d, t, os⟩ := s
  have hi : interactive (ksEnv qual scope L fI (.ref cda) cc) = false := by simp [interactive, hk]
  refine ks_wpAt_Expr_any (ks_wpAt_MethodCall ?_ hev) hi
  have I : W.InstAt hp0 x (excO C t0) C none := ⟨hx, rfl, rfl, trivial⟩
  obtain ⟨oD, hD1, hD2⟩ : ∃ oD, hp0.get? C = some oD ∧ oD.data = .cls { name := nm, bases := bs, mro := .ref C :: bm, ns := N, qualname := q, hasDict := true, slotNames := sn, subclasses := sub, abstract := ab, collection := col, hasDel := false } := ⟨_, X _ _ hC, rfl⟩
  refine ks_wpAt_super_base (env := ksEnv qual scope L fI (.ref cda) cc) hks hkc (by decide +kernel) rfl (X _ _ hf) rfl hp rfl (X _ _ hcode) rfl hvs hfile htop ?_
  refine ks_loadName_global hk hks (loadGlobal_builtin (env := ksEnv qual scope L fI (.ref cda) cc) hg hmg hb hmb ⟨rfl, ?_⟩)
  refine wpAny_loadName_free hk hkc rfl ⟨_, X _ _ hcell, rfl⟩ ?_
  refine wpAny_loadName_local hk hka hn hv ?_
  refine ks_wpAny_isType_cls hD1 hD2 ⟨rfl, ?_⟩
  refine ks_wpAny_call_super hD1 hD2 I.at_ I.cls (fun c e => (nomatch e)) (looks_mroIn X hsub) (fun h1 e1 k1 => ?_)
  have X1 : K.In h1 := X.keeps k1
  have I1 : W.InstAt h1 x (excO C t0) C none := ⟨k1 _ _ hx, rfl, rfl, trivial⟩
  have hI : Looks (model prog w) h1 (isInstance (.ref x) (.type "ValueError")) true := I1.type.andThen (looks_subIn X1 T.veC)
  have hxC : x ≠ C := ks_ne X1 I1 hcl
  refine kxs_getMethod kxs_ValueError e1 (looks_opaque X1 T.opq) (l₀ := .ref C :: bm) (l := bm) ?_ ?_ X1 hal hI hxC (by decide +kernel) ?_
  · exact fun A Q E s k q => wpAny_bind ((looks_clsIn X1 hcl) A _ E s k (wpAny_pure q))
  · simp [List.dropWhile_cons]
  have k2 : ∀ b o, h1.get? b = some o → (h1.push (kxs_mw "ValueError.__init__" x)).get? b = some o := fun b o e => Heap.get?_push_of_some _ e
  have k3 : ∀ b o, hp0.get? b = some o → (h1.push (kxs_mw "ValueError.__init__" x)).get? b = some o := fun b o e => k2 b o (k1 b o e)
  have hu : (h1.push (kxs_mw "ValueError.__init__" x)).get? h1.objs.size = some (kxs_mw "ValueError.__init__" x) := Heap.get?_push_at rfl rfl
  refine kxs_callWith (i := "ValueError.__init__") (x := x) rfl (evalArgs_plain ?_)
  show wpAny _ _ (spliced ((false, eval (.Constant (.str msg) 0 p3) (ksEnv qual scope L fI (.ref cda) cc)) :: backTo p4 (starEach [] (ksEnv qual scope L fI (.ref cda) cc)))) _ _ _
  refine Calls.spliced_cons (Calls.Constant_str (Calls.spliced_nil ⟨hu, ?_⟩))
  refine call_mw (C := C) (t0 := t0) (e := x) ((X.keeps k3) _ _ hC) (k3 _ _ hx) hu (by show 1 ≤ sizeLine; decide) fun h' t1 k4 hx' z4 => ?_
  exact h h' _ t1 (fun b o hb e => k4 b o hb (k3 b o e)) hx' (Nat.le_trans (Nat.le_trans (Nat.le_of_lt (Heap.lt_size e1)) (Nat.le_of_lt (Heap.lt_size hu))) z4)
/-- what __init__ leaves of the fresh error at x -/
structure InitE (h h' : Heap) (x C dx : Addr) (m : Str → Option Value) : Prop where
  keep : ∀ b o, b ≠ x → h.get? b = some o → h'.get? b = some o
  obj : ∃ t1 : Addr, h'.get? x = some { cls := .ref C, dict := some dx, data := .fields #[.ref t1, .none, .none, .none, .bool false, .none] }
  dbig : h.objs.size ≤ dx
  dne : dx ≠ x
  ns : h'.Ns1 dx m
theorem ld_loc {M : Model} {env : Env} {m : Str → Option Value} {y : Str} {pos : Pos} {v : Value} {Q : Value → Shared → Prop} (hn : s.heap.Ns env.locals m) (hv : m y = some v) (h : Q v s)
    (hk : env.scope.kind = .function) (hl : env.kindOf y = some .local) (hd : (y == ("__debug__" : Str)) = false) : wpAny M A (eval (.Name y pos) env) Q E s := wpAny_Name (wpAny_loadName_local hk hl hn hv h) hd
/-- self.f = f, the first one -/
theorem sto_first {env : Env} {m : Str → Option Value} {f : Str} {v : Value} {q1 q2 q3 q4 : Pos} {Q : Flow → Shared → Prop} (T : ExC K C) (X : K.In s.heap) (hn : s.heap.Ns env.locals m) (hx : s.heap.get? x = some (excO C t0))
    (hs : m "self" = some (.ref x)) (hv : m f = some v) (hk : env.scope.kind = .function) (hls : env.kindOf "self" = some .local) (hlf : env.kindOf f = some .local) (hd : (f == ("__debug__" : Str)) = false) (hno : findIn K (.ref C) f = some none)
    (h : ∀ h' tk dx, InitE s.heap h' x C dx (mapOf [(f, v)]) → Q .next { s with heap := h', toks := tk }) : wpAny (model prog w) A (exec (sto1 f q1 q2 q3 q4) env) Q E s := by
  obtain ⟨nm, q, N, bs, bm, sn, sub, ab, col, dd, k0, k1, k2, k3, k5, hC, hbm, hal⟩ := T.cls
  have hcl : clsIn K C = some { name := nm, bases := bs, mro := .ref C :: bm, ns := N, qualname := q, hasDict := true, slotNames := sn, subclasses := sub, abstract := ab, collection := col, hasDel := false } := by unfold clsIn; rw [hC] <;> rfl
  refine plainObj_wpAny_Assign_Attribute ?_
  refine ld_loc hn hv (ld_loc hn hs ?_ hk hls (by decide +kernel)) hk hlf hd
  refine set_plain X (ox := excO C t0) (od := none) ⟨hx, rfl, rfl, trivial⟩ T.sa ?_
  refine exc_osa X hx hcl (show refsVE (.ref C :: bm) = true from hbm) rfl hno (fun h3 tk3 dx k3 dn dne hx3 hn3 => ?_)
  exact h h3 tk3 dx ⟨k3, ⟨_, hx3⟩, dn, dne, hn3⟩
/-- a further one -/
theorem sto_next {h0 : Heap} {env : Env} {m m0 : Str → Option Value} {f : Str} {v : Value} {dx : Addr} {nl : List Str} {q1 q2 q3 q4 : Pos} {Q : Flow → Shared → Prop} (T : ExC K C) (X : K.In s.heap) (hn : s.heap.Ns env.locals m) (hi : InitE h0 s.heap x C dx m0) (hw : Within m0 nl) (hz : nl.length ≤ 1000)
    (hs : m "self" = some (.ref x)) (hv : m f = some v) (hk : env.scope.kind = .function) (hls : env.kindOf "self" = some .local) (hlf : env.kindOf f = some .local) (hd : (f == ("__debug__" : Str)) = false) (hno : findIn K (.ref C) f = some none)
    (h : ∀ h' tk, InitE h0 h' x C dx (fun y => if y = f then some v else m0 y) → Q .next { s with heap := h', toks := tk }) : wpAny (model prog w) A (exec (sto1 f q1 q2 q3 q4) env) Q E s := by
  obtain ⟨nm, q, N, bs, bm, sn, sub, ab, col, dd, k0, k1, k2, k3, k5, hC, hbm, hal⟩ := T.cls
  have hcl : clsIn K C = some { name := nm, bases := bs, mro := .ref C :: bm, ns := N, qualname := q, hasDict := true, slotNames := sn, subclasses := sub, abstract := ab, collection := col, hasDel := false } := by unfold clsIn; rw [hC] <;> rfl
  obtain ⟨t1, ho⟩ := hi.obj
  obtain ⟨oD, _, _, hoD, _, _⟩ := hi.ns.count hw
  refine plainObj_wpAny_Assign_Attribute ?_
  refine ld_loc hn hv (ld_loc hn hs ?_ hk hls (by decide +kernel)) hk hlf hd
  refine set_plain X (ox := { cls := .ref C, dict := some dx, data := .fields #[.ref t1, .none, .none, .none, .bool false, .none] }) (od := some oD) ⟨ho, rfl, rfl, hoD⟩ T.sa ?_
  refine PySem.OEX.osa_old X ho hi.ns hw hz hcl (show refsVE (.ref C :: bm) = true from hbm) rfl hno (fun h' tk' k hn' => ?_)
  refine h h' tk' ⟨fun b o hb e => k b o (Nat.ne_of_lt (Nat.lt_of_lt_of_le (Heap.lt_size e) hi.dbig)) (hi.keep b o hb e), ⟨t1, k x _ (Ne.symm hi.dne) ho⟩, hi.dbig, hi.dne, hn'⟩
/-- what the written part says of an error's __init__ -/
structure IniF (P : Program) (K : Frag) (C fI : Addr) (qual : Str) (st : Stmt) : Prop where
  iC : findIn K (.ref C) "__init__" = some (some (.ref fI))
  tC : typeIn K (.ref fI) = some (.type "function")
  ex : ∃ (oc : Value) (od : Option Addr) (kV doc pm : Value) (an : Option Addr) (cda : Addr) (ct : Value) (osl : Array (Option Value)) (cc : Addr),
    K.lookup fI = some ⟨oc, od, .func (ksFn "__init__" qual (L2.defArgs st) (L2.defBody st) (L2.defScope st) .none kV doc pm an (.ref cda) ct cc), osl⟩ ∧ codeIn K (.ref cda) qual = true ∧
    (∃ (ccl : Value) (cdd : Option Addr) (vs : Array Value) (ccs : Array (Option Value)) (file : Str) (tf : Tok), K.lookup cda = some ⟨ccl, cdd, .fields vs, ccs⟩ ∧ vs[2]? = some (.str file tf) ∧ ((P.main.file : Str) == file) = true) ∧
    ∃ (cl : Value) (cld : Option Addr) (csl : Array (Option Value)), K.lookup cc = some ⟨cl, cld, .cell (some (.ref C)), csl⟩
  top : (P.main.scope.names.lookup ("super" : Str)).isSome = false
/-- __init__ at fI of the class at C takes these fields -/
structure Ini (P : Program) (w : World) (K : Frag) (mg : Str → Option Value) (C fI : Addr) (fsn : List Str) : Prop where
  run : ∀ {A : Around} {R : Result → Shared → Prop} {s : Shared} {x t0 : Addr} {us : List Value}, K.In s.heap → s.heap.NoLimit → s.heap.Ns mainGlobals mg → (∃ mb, s.heap.Ns builtinsNs mb ∧ mb "super" = some (.type "super")) → s.heap.get? x = some (excO C t0) → K.lookup x = none → A.depth < recursionLimit →
    us.length = fsn.length → (∀ h' tk dx, InitE s.heap h' x C dx (mapOf (fsn.zip us).reverse) → R (.ok (.ret .none)) { s with heap := h', toks := tk }) → codeAny (model P w) A (.call (.ref fI) ⟨.ref x :: us, []⟩) R s
section
variable {P : Program} {w : World} {K : Frag} {mg : Str → Option Value} {C fI : Addr} {qual : Str} {st : Stmt} {f1 f2 msg : Str} {p0 p1 p2 p3 p4 p5 q1 q2 q3 q4 r1 r2 r3 r4 : Pos} {ar : Arg} {pl : Addr → Addr → Addr → Addr → Sem Bool}
theorem ini1 (T : ExC K C) (F : IniF P K C fI qual st) (hmg : mg "super" = none) (hbody : L2.defBody st = [sup1 msg p0 p1 p2 p3 p4 p5, sto1 f1 q1 q2 q3 q4])
    (hhead : ((L2.defArgs st).posonlyargs ++ (L2.defArgs st).args).head? = some ar) (har : ar.arg = "self")
    (hbind : ∀ (kV doc pm : Value) (an : Option Addr) (cdv ct : Value) (cc : Addr) (u1 u2 : Value), bindArgs (ksFn "__init__" qual (L2.defArgs st) (L2.defBody st) (L2.defScope st) .none kV doc pm an cdv ct cc) ⟨[u1, u2], []⟩ = pure (([("self", u1), (f1, u2)] : List (Str × Value))))
    (hls : (L2.defScope st).names.lookup ("self" : Str) = some .local) (hl1 : (L2.defScope st).names.lookup f1 = some .local) (hks : (L2.defScope st).names.lookup ("super" : Str) = some .globalImplicit) (hkc : (L2.defScope st).names.lookup ("__class__" : Str) = some .free)
    (hcell : ∀ x ∈ (L2.defScope st).names, x.2 ≠ .cell) (hco : (L2.defScope st).isCoroutine = false) (hgen : (L2.defScope st).isGenerator = false) (hk : (L2.defScope st).kind = .function)
    (hd1 : (f1 == ("__debug__" : Str)) = false) (hs1 : (("self" : Str) == f1) = false) (hno1 : findIn K (.ref C) f1 = some none)
    (hev : ∀ L fI cda cc, eval (.Call (.Attribute (.Call (.Name "super" p0) [] [] p1) "__init__" p2) [.Constant (.str msg) 0 p3] [] p4) (ksEnv qual (L2.defScope st) L fI (.ref cda) cc) = (do
      let ov ← attributeBase (.Call (.Name "super" p0) [] [] p1) "__init__" (ksEnv qual (L2.defScope st) L fI (.ref cda) cc) (eval (.Call (.Name "super" p0) [] [] p1) (ksEnv qual (L2.defScope st) L fI (.ref cda) cc))
      standAt p2.atName
      let (f, first) ← holding [ov] (getMethod ov "__init__" (pl L fI cda cc))
      callWith p4 f first (backTo p4 (starEach [.Constant (.str msg) 0 p3] (ksEnv qual (L2.defScope st) L fI (.ref cda) cc))) [])) :
    Ini P w K mg C fI [f1] := by
  refine ⟨fun {A R s x t0 us} X hlim hg hbl hx hnx hroom hus hq => ?_⟩
  obtain ⟨oc, od, kV, doc, pm, an, cda, ct, osl, cc, hf, hcd, ⟨ccl, cdd, vs, ccs, file, tf, hcode, hvs, hfile⟩, cl, cld, csl, hcell'⟩ := F.ex
  obtain ⟨mb, hb, hmb⟩ := hbl
  match us, hus with
  | [v1], _ =>
  refine ks_codeAny_call_defAt (fd := ksFn "__init__" qual (L2.defArgs st) (L2.defBody st) (L2.defScope st) .none kV doc pm an (.ref cda) ct cc) (body := L2.defBody st) (binds := [("self", .ref x), (f1, v1)]) hroom (X _ _ hf) rfl hlim (codeRec_of X hcd) rfl
    (BindsTo.of_eq (hbind kV doc pm an (.ref cda) ct cc _ _)) hcell ?_ (fun h1 hns hk1 => ?_) hco hgen hk
  · intro y hy
    rcases List.mem_cons.mp hy with e | hy
    · rw [e]; exact hls
    · rcases List.mem_cons.mp hy with e | hy
      · rw [e]; exact hl1
      · cases hy
  rw [hbody]
  have es : ([("self", Value.ref x), (f1, v1)] : List (Str × Value)).reverse.lookup ("self" : Str) = some (.ref x) := by
    show List.lookup ("self" : Str) [(f1, v1), (("self" : Str), Value.ref x)] = _
    rw [List.lookup_cons, hs1]
    simp
  have e1 : ([("self", Value.ref x), (f1, v1)] : List (Str × Value)).reverse.lookup f1 = some v1 := by
    show List.lookup f1 [(f1, v1), (("self" : Str), Value.ref x)] = _
    simp
  have X1 : K.In h1 := X.keeps hk1
  have nsk : ∀ {b : Addr} {m : Str → Option Value}, s.heap.Ns b m → h1.Ns b m := fun {b m} n => n.keeps hk1
  refine ks_wpAt_execs_cons (sup_walk (L := s.heap.objs.size) (fI := fI) (cc := cc) (cda := cda) (qual := qual) (scope := L2.defScope st) (m := fun y => ([("self", Value.ref x), (f1, v1)] : List (Str × Value)).reverse.lookup y) (t0 := t0) (x := x) T X1 (nsk hg) hmg (nsk hb) hmb hns hf hhead (by rw [har]; exact es) (hk1 _ _ hx) hcode hvs hfile hcell' (hev _ _ _ _) F.top hks hkc (by rw [har]; exact hls) hk fun h2 tk2 t2 k2 hx2 z2 => ?_)
  have nx : s.heap.objs.size ≠ x := Nat.ne_of_gt (Heap.lt_size hx)
  have X2 : K.In h2 := fun a o e => k2 a o (fun z => by rw [z, hnx] at e; cases e) (X1 a o e)
  have ns2 : h2.Ns s.heap.objs.size (fun y => ([("self", Value.ref x), (f1, v1)] : List (Str × Value)).reverse.lookup y) := by
    obtain ⟨oL, es', ep, hL, r⟩ := hns
    exact ⟨oL, es', ep, k2 _ _ nx hL, r⟩
  refine wpAt_of_wpAny (wpAny_execs_cons (sto_first (m := fun y => ([("self", Value.ref x), (f1, v1)] : List (Str × Value)).reverse.lookup y) T X2 ns2 hx2 es e1 hk hls hl1 hd1 hno1 fun h3 tk3 dx hi => ?_))
  refine wpAny_execs_nil ?_
  have z1 : s.heap.objs.size ≤ h1.objs.size := Nat.le_of_lt (by obtain ⟨oL, _, _, hL, _⟩ := hns; exact Heap.lt_size hL)
  exact hq h3 tk3 dx ⟨fun b o hb e => hi.keep b o hb (k2 b o hb (hk1 b o e)), hi.obj, Nat.le_trans (Nat.le_trans z1 z2) hi.dbig, hi.dne, hi.ns⟩
theorem ini2 (T : ExC K C) (F : IniF P K C fI qual st) (hmg : mg "super" = none) (hbody : L2.defBody st = [sup1 msg p0 p1 p2 p3 p4 p5, sto1 f1 q1 q2 q3 q4, sto1 f2 r1 r2 r3 r4])
    (hhead : ((L2.defArgs st).posonlyargs ++ (L2.defArgs st).args).head? = some ar) (har : ar.arg = "self")
    (hbind : ∀ (kV doc pm : Value) (an : Option Addr) (cdv ct : Value) (cc : Addr) (u1 u2 u3 : Value), bindArgs (ksFn "__init__" qual (L2.defArgs st) (L2.defBody st) (L2.defScope st) .none kV doc pm an cdv ct cc) ⟨[u1, u2, u3], []⟩ = pure (([("self", u1), (f1, u2), (f2, u3)] : List (Str × Value))))
    (hls : (L2.defScope st).names.lookup ("self" : Str) = some .local) (hl1 : (L2.defScope st).names.lookup f1 = some .local) (hl2 : (L2.defScope st).names.lookup f2 = some .local) (hks : (L2.defScope st).names.lookup ("super" : Str) = some .globalImplicit) (hkc : (L2.defScope st).names.lookup ("__class__" : Str) = some .free)
    (hcell : ∀ x ∈ (L2.defScope st).names, x.2 ≠ .cell) (hco : (L2.defScope st).isCoroutine = false) (hgen : (L2.defScope st).isGenerator = false) (hk : (L2.defScope st).kind = .function)
    (hd1 : (f1 == ("__debug__" : Str)) = false) (hs1 : (("self" : Str) == f1) = false) (hno1 : findIn K (.ref C) f1 = some none)
    (hd2 : (f2 == ("__debug__" : Str)) = false) (hs2 : (("self" : Str) == f2) = false) (hs3 : (f1 == f2) = false) (hno2 : findIn K (.ref C) f2 = some none)
    (hev : ∀ L fI cda cc, eval (.Call (.Attribute (.Call (.Name "super" p0) [] [] p1) "__init__" p2) [.Constant (.str msg) 0 p3] [] p4) (ksEnv qual (L2.defScope st) L fI (.ref cda) cc) = (do
      let ov ← attributeBase (.Call (.Name "super" p0) [] [] p1) "__init__" (ksEnv qual (L2.defScope st) L fI (.ref cda) cc) (eval (.Call (.Name "super" p0) [] [] p1) (ksEnv qual (L2.defScope st) L fI (.ref cda) cc))
      standAt p2.atName
      let (f, first) ← holding [ov] (getMethod ov "__init__" (pl L fI cda cc))
      callWith p4 f first (backTo p4 (starEach [.Constant (.str msg) 0 p3] (ksEnv qual (L2.defScope st) L fI (.ref cda) cc))) [])) :
    Ini P w K mg C fI [f1, f2] := by
  refine ⟨fun {A R s x t0 us} X hlim hg hbl hx hnx hroom hus hq => ?_⟩
  obtain ⟨oc, od, kV, doc, pm, an, cda, ct, osl, cc, hf, hcd, ⟨ccl, cdd, vs, ccs, file, tf, hcode, hvs, hfile⟩, cl, cld, csl, hcell'⟩ := F.ex
  obtain ⟨mb, hb, hmb⟩ := hbl
  match us, hus with
  | [v1, v2], _ =>
  refine ks_codeAny_call_defAt (fd := ksFn "__init__" qual (L2.defArgs st) (L2.defBody st) (L2.defScope st) .none kV doc pm an (.ref cda) ct cc) (body := L2.defBody st) (binds := [("self", .ref x), (f1, v1), (f2, v2)]) hroom (X _ _ hf) rfl hlim (codeRec_of X hcd) rfl
    (BindsTo.of_eq (hbind kV doc pm an (.ref cda) ct cc _ _ _)) hcell ?_ (fun h1 hns hk1 => ?_) hco hgen hk
  · intro y hy
    rcases List.mem_cons.mp hy with e | hy
    · rw [e]; exact hls
    · rcases List.mem_cons.mp hy with e | hy
      · rw [e]; exact hl1
      · rcases List.mem_cons.mp hy with e | hy
        · rw [e]; exact hl2
        · cases hy
  rw [hbody]
  have es : ([("self", Value.ref x), (f1, v1), (f2, v2)] : List (Str × Value)).reverse.lookup ("self" : Str) = some (.ref x) := by
    show List.lookup ("self" : Str) [(f2, v2), (f1, v1), (("self" : Str), Value.ref x)] = _
    rw [List.lookup_cons, hs2]
    show List.lookup ("self" : Str) [(f1, v1), (("self" : Str), Value.ref x)] = _
    rw [List.lookup_cons, hs1]
    simp
  have e1 : ([("self", Value.ref x), (f1, v1), (f2, v2)] : List (Str × Value)).reverse.lookup f1 = some v1 := by
    show List.lookup f1 [(f2, v2), (f1, v1), (("self" : Str), Value.ref x)] = _
    rw [List.lookup_cons, hs3]
    simp
  have e2 : ([("self", Value.ref x), (f1, v1), (f2, v2)] : List (Str × Value)).reverse.lookup f2 = some v2 := by
    show List.lookup f2 [(f2, v2), (f1, v1), (("self" : Str), Value.ref x)] = _
    simp
  have X1 : K.In h1 := X.keeps hk1
  have nsk : ∀ {b : Addr} {m : Str → Option Value}, s.heap.Ns b m → h1.Ns b m := fun {b m} n => n.keeps hk1
  refine ks_wpAt_execs_cons (sup_walk (L := s.heap.objs.size) (fI := fI) (cc := cc) (cda := cda) (qual := qual) (scope := L2.defScope st) (m := fun y => ([("self", Value.ref x), (f1, v1), (f2, v2)] : List (Str × Value)).reverse.lookup y) (t0 := t0) (x := x) T X1 (nsk hg) hmg (nsk hb) hmb hns hf hhead (by rw [har]; exact es) (hk1 _ _ hx) hcode hvs hfile hcell' (hev _ _ _ _) F.top hks hkc (by rw [har]; exact hls) hk fun h2 tk2 t2 k2 hx2 z2 => ?_)
  have nx : s.heap.objs.size ≠ x := Nat.ne_of_gt (Heap.lt_size hx)
  have X2 : K.In h2 := fun a o e => k2 a o (fun z => by rw [z, hnx] at e; cases e) (X1 a o e)
  have ns2 : h2.Ns s.heap.objs.size (fun y => ([("self", Value.ref x), (f1, v1), (f2, v2)] : List (Str × Value)).reverse.lookup y) := by
    obtain ⟨oL, es', ep, hL, r⟩ := hns
    exact ⟨oL, es', ep, k2 _ _ nx hL, r⟩
  refine wpAt_of_wpAny (wpAny_execs_cons (sto_first (m := fun y => ([("self", Value.ref x), (f1, v1), (f2, v2)] : List (Str × Value)).reverse.lookup y) T X2 ns2 hx2 es e1 hk hls hl1 hd1 hno1 fun h3 tk3 dx hi => ?_))
  have nd : dx ≠ s.heap.objs.size := Nat.ne_of_gt (by
    have z1 : s.heap.objs.size < h1.objs.size := by obtain ⟨oL, _, _, hL, _⟩ := hns; exact Heap.lt_size hL
    exact Nat.lt_of_lt_of_le z1 (Nat.le_trans z2 hi.dbig))
  have X3 : K.In h3 := fun a o e => hi.keep a o (fun z => by rw [z, hnx] at e; cases e) (X2 a o e)
  have ns3 : h3.Ns s.heap.objs.size (fun y => ([("self", Value.ref x), (f1, v1), (f2, v2)] : List (Str × Value)).reverse.lookup y) := by
    obtain ⟨oL, es', ep, hL, r⟩ := ns2
    exact ⟨oL, es', ep, hi.keep _ _ nx hL, r⟩
  have hw : Within (mapOf [(f1, v1)]) [f1] := fun y hy => by
    by_cases q : y = f1
    · rw [q]; exact List.mem_cons_self
    · exact absurd (if_neg q) hy
  refine wpAny_execs_cons (sto_next (m := fun y => ([("self", Value.ref x), (f1, v1), (f2, v2)] : List (Str × Value)).reverse.lookup y) (nl := [f1]) T X3 ns3 hi hw (by show 1 ≤ 1000; decide) es e2 hk hls hl2 hd2 hno2 fun h4 tk4 hi4 => ?_)
  refine wpAny_execs_nil ?_
  have z1 : s.heap.objs.size ≤ h1.objs.size := Nat.le_of_lt (by obtain ⟨oL, _, _, hL, _⟩ := hns; exact Heap.lt_size hL)
  exact hq h4 tk4 dx ⟨fun b o hb e => hi4.keep b o hb (k2 b o hb (hk1 b o e)), hi4.obj, Nat.le_trans (Nat.le_trans z1 z2) hi4.dbig, hi4.dne, hi4.ns⟩
end
end
end LL
namespace LL
open PySem PySem.W PySem.Calls PyProof.Rows PySem.HandSPX
structure OwnE (h h' : Heap) (e C d : Addr) (m : Str → Option Value) : Prop where
  keep : ∀ b o, h.get? b = some o → h'.get? b = some o
  new : h.objs.size ≤ e
  obj : ∃ t1 : Addr, h'.get? e = some { cls := .ref C, dict := some d, data := .fields #[.ref t1, .none, .none, .none, .bool false, .none] }
  dbig : h.objs.size ≤ d
  dne : d ≠ e
  ns : h'.Ns1 d m
theorem own_made {P : Program} {w : World} {A : Around} {R : Result → Shared → Prop} {s : Shared} {K : Frag} {mg : Str → Option Value} {C fI : Addr} {fsn : List Str} {qual : Str} {st : Stmt} {us : List Value}
    (T : ExC K C) (D : IniF P K C fI qual st) (N : Ini P w K mg C fI fsn) (X : K.In s.heap) (hlim : s.heap.NoLimit) (hg : s.heap.Ns mainGlobals mg) (hb : ∃ mb, s.heap.Ns builtinsNs mb ∧ mb "super" = some (.type "super")) (hroom : A.depth + 1 < recursionLimit)
    (hl : us.length = fsn.length) (hz : us.length ≤ sizeLine) (hq : ∀ h' tk e d, OwnE s.heap h' e C d (mapOf (fsn.zip us).reverse) → R (.ok (.ret (.ref e))) { s with heap := h', toks := tk }) :
    codeAny (model P w) A (.call (.ref C) ⟨us, []⟩) R s := by
  obtain ⟨nm, q, N', bs, bm, sn, sub, ab, col, dd, k0, k1, k2, k3, k5, hC, hbm, _⟩ := T.cls
  obtain ⟨hp, g, dr, tk, os⟩ := s
  have k : ∀ b o, hp.get? b = some o → ((hp.push (kdv_tup us)).push (excO C hp.objs.size)).get? b = some o := fun b o e => Heap.get?_push_of_some _ (Heap.get?_push_of_some _ e)
  have hget : ((hp.push (kdv_tup us)).push (excO C hp.objs.size)).get? (hp.objs.size + 1) = some (excO C hp.objs.size) := by heap_get
  have hnx : K.lookup (hp.objs.size + 1) = none := by
    cases e : K.lookup (hp.objs.size + 1) with
    | none => rfl
    | some o =>
      have z : hp.get? (hp.objs.size + 1) = some o := X _ _ e
      exact absurd (Nat.lt_of_succ_lt (Heap.lt_size z)) (Nat.lt_irrefl _)
  obtain ⟨mb, hb1, hb2⟩ := hb
  refine call_own F.excBase_ValueError (fun X => refsVE_contains X bm hbm) (X _ _ hC) (looks_findIn X D.iC) (fun self => bind_fn X self D.tC) hz ?_
  refine N.run (s := ⟨(hp.push (kdv_tup us)).push (excO C hp.objs.size), g, dr, tk, os⟩) (X.keeps k) (hlim.keeps k) (hg.keeps k) ⟨mb, hb1.keeps k, hb2⟩ hget hnx ?_ hl fun h' tk' dx hi => ?_
  · show A.depth + 1 < recursionLimit
    exact hroom
  · have old : ∀ b o, hp.get? b = some o → h'.get? b = some o := fun b o e => hi.keep b o (Nat.ne_of_lt (Nat.lt_succ_of_lt (Heap.lt_size e))) (k b o e)
    have z : hp.objs.size + 1 + 1 ≤ dx := by
      have q := hi.dbig
      simp only [Heap.size_push] at q
      exact q
    exact ⟨rfl, hq h' tk' (hp.objs.size + 1) dx ⟨old, Nat.le_succ _, hi.obj, Nat.le_trans (Nat.le_trans (Nat.le_succ _) (Nat.le_succ _)) z, hi.dne, hi.ns⟩⟩
end LL
namespace LL
open PySem PySem.Spec PyProof.Rows L2
theorem relO_map : ∀ {ps : List (Str × V)} {qs : List (Str × Value)}, Paired (fun (p : Str × V) (q : Str × Value) => p.1 = q.1 ∧ RelV p.2 q.2) ps qs → ∀ f, RelO (List.lookup f ps) (mapOf qs f)
  | _, _, .nil, f => True.intro
  | (a, x) :: ps, (b, y) :: qs, .cons r t, f => by
    obtain ⟨e, rv⟩ := r
    have e' : a = b := e
    subst e'
    rw [lookup_put]
    show RelO _ (if f = a then some y else mapOf qs f)
    by_cases h : f = a
    · rw [if_pos h, if_pos h]
      exact rv
    · rw [if_neg h, if_neg h]
      exact relO_map t f
theorem paired_app {α β : Type} {F : α → β → Prop} : ∀ {l l' : List α} {m m' : List β}, Paired F l m → Paired F l' m' → Paired F (l ++ l') (m ++ m')
  | _, _, _, _, .nil, s => s
  | _, _, _, _, .cons r t, s => .cons r (paired_app t s)
theorem paired_rev {α β : Type} {F : α → β → Prop} : ∀ {l : List α} {m : List β}, Paired F l m → Paired F l.reverse m.reverse
  | _, _, .nil => .nil
  | _, _, .cons r t => by
    rw [List.reverse_cons, List.reverse_cons]
    exact paired_app (paired_rev t) (.cons r .nil)
theorem paired_zip : ∀ {fsn : List Str} {vs : List V} {us : List Value}, Vals vs us → Paired (fun (p : Str × V) (q : Str × Value) => p.1 = q.1 ∧ RelV p.2 q.2) (fsn.zip vs) (fsn.zip us)
  | [], _, _, _ => by simpa using Paired.nil
  | _ :: _, _, _, .nil => by simpa using Paired.nil
  | f :: fsn, _, _, .cons r t => by
    show Paired _ ((f, _) :: fsn.zip _) ((f, _) :: fsn.zip _)
    exact .cons ⟨rfl, r⟩ (paired_zip t)
section
variable {X : Cx} {C fI : Addr} {fsn : List Str} {qual : Str} {st : Stmt}
/-- X(e, ..): the error's class, its own dict (new) -/
def tMkX (C : Addr) (fsn : List Str) (ta : TA) : L2.St → Hp → XK → Prop := fun σ H Q => ta σ H fun vs H1 => vs.length = fsn.length ∧ vs.length ≤ sizeLine ∧ ∀ d, H1 d = none → Q (.ref C) (some d) (upd H1 d (.xd (fsn.zip vs).reverse))
theorem pmk_x {nm : Str} {e : Expr} {es : List Expr} {ta : TA} {p pos : Pos} {k : Nat} (T : ExC X.K C) (D : IniF X.prog X.K C fI qual st) (N : Ini X.prog X.w X.K X.mg C fI fsn) (hr : Room k X.A) (hm : X.mg nm = some (.ref C)) (ha : PA X (e :: es) ta) (hg : Gl X nm := by rfl)
    (hdb : (nm == ("__debug__" : Str)) = false := by decide) (he : starEach (e :: es) X.env = (false, eval e X.env) :: starEach es X.env := by rfl) (hpl : (backTo pos (starEach es X.env)).any (·.1) = false := by rfl) :
    PMk X (.Call (.Name nm p) (e :: es) [] pos) (tMkX C fsn ta) := by
  intro pins s σ H Q I h
  refine wpAny_Call_Name_kw (ld_glob I hg hm ?_ hdb)
  refine PySem.W.callWith_K (h₀ := X.base) I.ok.mod.kin T.kC (thn (ha.run pos pins s σ H _ I h) fun us s1 hh => ?_) he hpl
  obtain ⟨vs, H1, I1, r1, hl, hz, q1⟩ := hh
  refine ⟨I1.kIn, ?_⟩
  show wpAny _ _ (call (.ref C) us) _ _ _
  have hlim := I1.nolimit
  have hlen := r1.length
  have hg' := I1.mod.glob.keeps I1.bk
  obtain ⟨mb, b1, b2⟩ := I1.mod.blt
  have hb' : ∃ mb, s1.heap.Ns builtinsNs mb ∧ mb "super" = some (.type "super") := ⟨mb, b1.keeps I1.bk, (b2 "super" (by decide +kernel)).trans (by decide +kernel)⟩
  obtain ⟨hp, g, dr, tk, os⟩ := s1
  refine wpAny_call (own_made T D N I1.kIn hlim hg' hb' (by have := hr.dp; omega) (by rw [← hlen]; exact hl) (by rw [← hlen]; exact hz) fun h' tk' e d M => ?_)
  show MkP X pins σ Q (.ref e) ⟨h', g, dr, tk', os⟩
  obtain ⟨t1, hoe⟩ := M.obj
  have hns := M.ns
  obtain ⟨G', g1, g2⟩ := restrict h' fun b => decide (b ≠ e)
  have gk : ∀ b, b ≠ e → G'.get? b = h'.get? b := fun b hb => g1 b (decide_eq_true hb)
  have ge : G'.get? e = none := g2 e (by simp)
  have old : ∀ b o, hp.get? b = some o → G'.get? b = some o := fun b o q => (gk b (Nat.ne_of_lt (Nat.lt_of_lt_of_le (Heap.lt_size q) M.new))).trans (M.keep b o q)
  have ob : ObjOk X.prog X.w (upd H1 d (.xd (fsn.zip vs).reverse)) G' d (.xd (fsn.zip vs).reverse) :=
    ⟨_, hns.at (fun o q => (gk d M.dne).trans q), fun f => relO_map (paired_rev (paired_zip r1)) f⟩
  have J : Inv X pins σ (upd H1 d (.xd (fsn.zip vs).reverse)) ⟨G', g, dr, tk', os⟩ := I1.laid (t' := tk') old M.dbig ob
  refine ⟨e, _, _, ⟨G', g, dr, tk', os⟩, _, .ref C, some d, rfl, J, fun b o q => ?_, ge, hoe, ⟨rfl, rfl⟩, rfl, rfl, ?_, rfl, I1.bare, raises_own T.exC T.tyC, q1 d (I1.hok.fresh M.dbig)⟩
  · by_cases hb : b = e
    · have q' : G'.get? b = some o := q
      rw [hb, ge] at q'; cases q'
    · exact (gk b hb).symm.trans q
  · rw [upd_ne (Ne.symm M.dne)]
    exact I1.hok.fresh M.new
end
end LL
namespace LL
open PySem PySem.Spec PyProof.Rows L2
open L2H (RoomH roomH_of)
section
variable {X : Cx} {CX : CXT} {k : Nat} {f C : Addr} {fd : FuncData} {ps : List Str} {sp : Sp} {E : L2.St → XK} {x m : Str} {p pos apos : Pos} {e o : Expr} {es : List Expr} {ta : TE} {t : TA}
/-! ### o.m(e, ..), C(e, ..) in a try: what is raised is wished for at the slots -/
def tMethS (C : Addr) (m : Str) (sp : Sp) (E : L2.St → XK) (ta : TE) (t : TA) : TE := fun σ H Q => ta σ H fun x H1 => ∃ a dx fs, x = .ref a ∧ H1 a = some (.ins C dx fs) ∧ fs.lookup m = none ∧ t σ H1 fun vs H2 => sp (x :: vs) H2 Q (E σ)
theorem pe_methS {pl : Sem Bool} (he : PE X o ta) (c : Cls X.K C) (hm : Meth X.K C m f) (F : FnOk X.prog X.w X.K X.mg X.base CX k f fd ps sp) (hr : Room k X.A) (hb : Binds X.K fd ps []) (hx : ∀ σ, PassesAt CX X σ (E σ)) (ha : PA X (e :: es) t)
    (hst : starEach (e :: es) X.env = (false, eval e X.env) :: starEach es X.env := by rfl) (hpl : (backTo pos (starEach es X.env)).any (·.1) = false := by rfl)
    (ht : eval (.Call (.Attribute o m apos) (e :: es) [] pos) X.env = (do
      let ov ← eval o X.env
      standAt apos.atName
      let (f, first) ← holding [ov] (getMethod ov m pl)
      callWith pos f first (backTo pos (starEach (e :: es) X.env)) (backToKw pos (keywordEach [] X.env))) := by rfl) :
    PE X (.Call (.Attribute o m apos) (e :: es) [] pos) (tMethS C m sp E ta t) := by
  refine ⟨fun pins s σ H Q I h => ?_⟩
  refine PySem.W.methodCall_KW (pl := pl) (thn (he.run pins s σ H _ I h) fun u s1 hh => ?_) ht
  obtain ⟨y, H1, I1, rx, a, dx, fs, ex, ea, l, q⟩ := hh
  subst ex
  obtain rfl : u = Value.ref a := rx
  refine getmeth_ok I1 ea c hm l ?_
  refine PySem.W.callWith_K (first := [.ref a]) (h₀ := X.base) I.ok.mod.kin hm.kp (thn (ha.run pos pins s1 σ H1 _ I1 q) fun us s2 hh => ?_) hst hpl
  obtain ⟨vs, H2, I2, r, q2⟩ := hh
  exact ⟨I2.kIn, run_fnS (us := .ref a :: us) (vs := .ref a :: vs) F hr hb (hx σ) I2 (.cons rfl r) q2⟩
def tMakeS (C : Addr) (sp : Sp) (E : L2.St → XK) (t : TA) : TE := fun σ H Q => t σ H fun vs H1 => ∀ x dx, H1 x = none → H1 dx = none → dx ≠ x →
  sp (.ref x :: vs) (upd (upd H1 dx (.own x)) x (.ins C dx [])) (fun v H2 => v = .non ∧ Q (.ref x) H2) (E σ)
theorem pe_makeS (M : Mk X.K C f) (F : FnOk X.prog X.w X.K X.mg X.base CX k f fd ps sp) (hr : Room (k + 1) X.A) (hg : Gl X x) (hm : X.mg x = some (.ref C)) (hb : Binds X.K fd ps []) (hx : ∀ σ, PassesAt CX X σ (E σ))
    (ha : PA X (e :: es) t) (hdb : (x == ("__debug__" : Str)) = false := by decide) (he : starEach (e :: es) X.env = (false, eval e X.env) :: starEach es X.env := by rfl) (hpl : (backTo pos (starEach es X.env)).any (·.1) = false := by rfl) :
    PE X (.Call (.Name x p) (e :: es) [] pos) (tMakeS C sp E t) := by
  refine ⟨fun pins s σ H Q I h => ?_⟩
  refine wpAny_Call_Name_kw (ld_glob I hg hm ?_ hdb)
  refine PySem.W.callWith_K (h₀ := X.base) I.ok.mod.kin M.kp (thn (ha.run pos pins s σ H _ I h) fun us s1 hh => ?_) he hpl
  obtain ⟨vs, H1, I1, r, q⟩ := hh
  refine ⟨I1.kIn, ?_⟩
  show wpAny _ _ (call (.ref C) us) _ _ _
  have hq := q (s1.heap.objs.size + 1) s1.heap.objs.size (I1.hok.fresh (Nat.le_succ _)) (I1.hok.fresh (Nat.le_refl _)) (Nat.ne_of_lt (Nat.lt_succ_self _))
  have I2 := Inv.made (C := C) I1
  have r2 : Vals (V.ref (s1.heap.objs.size + 1) :: vs) (Value.ref (s1.heap.objs.size + 1) :: us) := .cons rfl r
  have hl : (Value.ref (s1.heap.objs.size + 1) :: us).length = ps.length := by
    have e := r2.length
    rw [F.len _ _ _ _ hq] at e
    exact e.symm
  have b := hb { s1 with heap := (s1.heap.push PySem.W.emptyDict).push (PySem.W.instObj C s1.heap.objs.size) } (Value.ref (s1.heap.objs.size + 1) :: us) I2.kIn (by rw [List.append_nil]; exact hl)
  rw [List.append_nil] at b
  refine wpAny_call (make_map (f := f) I1.kIn M.makes M.init (beq_iff_eq.mp M.fn) (codeAny_mono (F.run _ X.stack _ _ ⟨Value.ref (s1.heap.objs.size + 1) :: us, []⟩ (Value.ref (s1.heap.objs.size + 1) :: us) _ _ (E σ) (hr.make C us [])
    (I2.env0.make C us []) b r2 hq) fun r s' hq' => ?_))
  cases r with
  | error e => exact hx σ pins _ _ e s' I2 hq'
  | ok fl =>
    cases fl with
    | ret u =>
      obtain ⟨v, H', I3, rv, ev, q3⟩ := I2.after hq'
      subst ev
      exact ⟨rv, ⟨V.ref (s1.heap.objs.size + 1), H', I3, rfl, q3⟩⟩
    | next => exact False.elim hq'
    | brk => exact False.elim hq'
    | cont => exact False.elim hq'
end
/-! ### a def whatever is handled around it (no loop over what runs dry, no raise) -/
structure FnA (P : Program) (w : World) (K : PySem.W.Frag) (mg : Str → Option Value) (base : Heap) (CX : CXT) (k : Nat) (f : Addr) (fd : FuncData) (ps : List Str) (sp : Sp) : Prop where
  len : ∀ vs H Q E, sp vs H Q E → vs.length = ps.length
  run : ∀ (A : Around) (outer : List Env) (s : Shared) (H : Hp) (args : Args) (us : List Value) (vs : List V) (Q : VK) (E : XK), RoomH k A → Env0 P w K mg base A outer s H → BindsTo s fd args (ps.zip us) → Vals vs us → sp vs H Q E →
    codeAny (model P w) A (.call (.ref f) args) (CR CX outer P w H s Q E) s
theorem FnA.ok {P : Program} {w : World} {K : PySem.W.Frag} {mg : Str → Option Value} {base : Heap} {CX : CXT} {k : Nat} {f : Addr} {fd : FuncData} {ps : List Str} {sp : Sp} (F : FnA P w K mg base CX k f fd ps sp) : FnOk P w K mg base CX k f fd ps sp :=
  ⟨F.len, fun A outer s H args us vs Q E hr => F.run A outer s H args us vs Q E (roomH_of hr)⟩
def cxA (CX : CXT) (P : Program) (w : World) (K : PySem.W.Frag) (mg : Str → Option Value) (base : Heap) (N : List Str) (qual : Str) (scope : Scope) (f : Addr) (cd : Value) (A : Around) (outer : List Env) (s : Shared) (H : Hp) (E : XK) : Cx :=
  { cxOf CX P w K mg base N qual scope f cd A outer s H E with calm := false }
theorem inv_startA {CX : CXT} {P : Program} {w : World} {K : PySem.W.Frag} {mg : Str → Option Value} {base : Heap} {N ps : List Str} {qual : Str} {scope : Scope} {f : Addr} {cd : Value} {A : Around} {outer : List Env} {s s1 : Shared} {H : Hp} {E : XK} {us : List Value} {vs : List V}
    (S : FnScope N ps scope) (e0 : Env0 P w K mg base A outer s H) (hl : vs.length = ps.length) (r : Vals vs us)
    (x : InCallC s s.heap.objs.size (bindL (envOfC qual scope s.heap.objs.size f cd).kindOf (ps.zip us) fun _ => none) (cellsFrom (s.heap.objs.size + 1) scope.names []) (bindC (envOfC qual scope s.heap.objs.size f cd).kindOf (ps.zip us) fun _ => none) s1) :
    Inv (cxA CX P w K mg base N qual scope f cd A outer s H E) [] (L2.start N vs) H s1 := by
  -- the same start as in a calm place, but for what is handled: taken from there at a place where nothing is
  have e0' : Env0 P w K mg base { A with handled := none } outer s H := ⟨e0.frames, e0.mod, e0.bs, e0.bsz, e0.funs, e0.frf, e0.hok, e0.bare⟩
  have J := inv_start (CX := CX) (E := E) S (A := { A with handled := none }) rfl e0' hl r x
  have ok := J.ok
  exact ⟨⟨ok.mod, ok.kind, ok.glob, ok.blt, ok.above, ok.inj, ok.has, ok.cab, fun z => Bool.noConfusion (show false = true from z), Around.frames_deeper e0.frames, ok.stk, ok.exf, ok.bs, ok.bsz, ok.noex, ok.exfs, ok.funs, ok.frf⟩,
    J.os, J.bare, J.base, J.loc, J.cell, J.free, J.freeC, J.pin, J.hok, J.len⟩
theorem Fun.okA {P : Program} {w : World} {K : PySem.W.Frag} {mg : Str → Option Value} {base : Heap} {x qual : Str} {st : Stmt} {f : Addr} {fd : FuncData} {N ps : List Str} {k : Nat} {sp : Sp} (F : Fun K x qual st f fd) (S : FnScope N ps (defScope st)) (len : ∀ vs H Q E, sp vs H Q E → vs.length = ps.length)
    (hbody : ∀ (cdv : Value) (A : Around) (outer : List Env) (s : Shared) (H : Hp) (vs : List V) (Q : VK) (E : XK), RoomH k (A.deeper (envOfC qual (defScope st) s.heap.objs.size f cdv)) → sp vs H Q E →
      ∃ t, PSs (cxA CX0 P w K mg base N qual (defScope st) f cdv A outer s H E).nox (defBody st) t ∧ t { nx := fun _ H' => Q .non H', rt := Q } (L2.start N vs) H) : FnA P w K mg base CX0 (k + 1) f fd ps sp := by
  obtain ⟨oc, od, kV, doc, pm, an, cdv, ct, osl, rfl, lk, hcd⟩ := F.ex
  refine ⟨len, fun A outer s H args us vs Q E hr e0 hb r hsp => ?_⟩
  have hl := len _ _ _ _ hsp
  have KX : K.In s.heap := e0.mod.kin.keeps fun b o e => (e0.bs b o e).1
  have lim : s.heap.NoLimit := e0.mod.nolimit.keeps fun b o e => (e0.bs b o e).1
  have hkind : ∀ y ∈ ps.zip us, (defScope st).names.lookup y.1 = some .local ∨ ((defScope st).names.lookup y.1 = some .cell ∧ ((cellsFrom (s.heap.objs.size + 1) (defScope st).names []).lookup y.1).isSome = true) := fun ⟨n, v⟩ hy => by
    rcases S.par n (List.of_mem_zip hy).1 with q | q
    · exact .inl q
    · exact .inr ⟨q, PySem.W.cellsFrom_some _ _ _ (.inl q)⟩
  refine codeAny_call_function hr.depth (KX _ _ lk) rfl S.co S.gen rfl (PySem.W.codeRec_of KX hcd) (hb _ _ _ _ ?_)
  refine wpAny_newFunctionEnv_cells S.kind hkind fun env he s1 x => ?_
  subst he
  refine ⟨lim.keeps x.toInCall.keep, codeAny_func ?_⟩
  obtain ⟨t, ht, hq⟩ := hbody cdv A outer s H vs Q E (hr.deeper _) hsp
  have I : Inv (cxA CX0 P w K mg base N qual (defScope st) f cdv A outer s H E) [] (L2.start N vs) H s1 := inv_startA S e0 hl r x
  refine wpAny_mono (ht.nox.run [] s1 (L2.start N vs) H _ I hq) (fun fl s' hs => ?_) fun e s' hs => hs
  have fin : ∀ {σ' : L2.St} {H' : Hp} {v : V} {u : Value}, Inv (cxA CX0 P w K mg base N qual (defScope st) f cdv A outer s H E) [] σ' H' s' → RelV v u → Q v H' → CE outer P w H s Q u s' :=
    fun {σ' H' v u} J rv q => ⟨v, H', J.os, J.bare, J.base, J.hok, rv, q⟩
  cases fl with
  | ret u =>
    obtain ⟨v, σ', H', J, rv, q⟩ := hs
    exact fin J rv q
  | next =>
    obtain ⟨σ', H', J, q⟩ := hs
    exact fin (v := V.non) (u := Value.none) J rfl q
  | brk =>
    obtain ⟨_, _, _, q⟩ := hs
    exact False.elim q
  | cont =>
    obtain ⟨_, _, _, q⟩ := hs
    exact False.elim q
theorem RoomH.suite {X : Cx} {k : Nat} {a : Addr} {pn : List (Addr × Obj)} (hr : RoomH k X.A) : RoomH k (X.suite a pn).A := ⟨hr.dp, hr.un⟩
section
variable {X : Cx} {k : Nat} {f : Addr} {fd : FuncData} {ps : List Str} {sp : Sp} {x : Str} {p pos : Pos} {e : Expr} {es : List Expr} {t : TA}
theorem pe_callA (F : FnA X.prog X.w X.K X.mg X.base CX0 k f fd ps sp) (hr : RoomH k X.A) (hg : Gl X x) (hm : X.mg x = some (.ref f)) (hk : PySem.W.keepIn X.K (.ref f) = true) (hb : Binds X.K fd ps [])
    (ha : PA X (e :: es) t) (hdb : (x == ("__debug__" : Str)) = false := by decide) (he : starEach (e :: es) X.env = (false, eval e X.env) :: starEach es X.env := by rfl) (hpl : (backTo pos (starEach es X.env)).any (·.1) = false := by rfl) :
    PE X (.Call (.Name x p) (e :: es) [] pos) (tCall sp [] E0 t) := by
  refine ⟨fun pins s σ H Q I h => ?_⟩
  refine wpAny_Call_Name_kw (ld_glob I hg hm ?_ hdb)
  refine PySem.W.callWith_K (h₀ := X.base) I.ok.mod.kin hk (thn (ha.run pos pins s σ H _ I h) fun us s1 hh => ?_) he hpl
  obtain ⟨vs, H1, I1, r, q⟩ := hh
  refine ⟨I1.kIn, ?_⟩
  show wpAny _ _ (call (.ref f) us) _ _ _
  rw [List.append_nil] at q
  have hl : us.length = ps.length := by rw [← r.length]; exact F.len _ _ _ _ q
  have b := hb s1 us I1.kIn (by rw [List.append_nil]; exact hl)
  rw [List.append_nil] at b
  refine wpAny_call (codeAny_mono (F.run X.A X.stack s1 H1 ⟨us, []⟩ us vs Q E0 hr I1.env0 b r q) fun r s' hq => ?_)
  cases r with
  | error e => exact False.elim hq
  | ok fl =>
    cases fl with
    | ret u => exact I1.after hq
    | next => exact False.elim hq
    | brk => exact False.elim hq
    | cont => exact False.elim hq
end
/-! ### isinstance of a caught error that has a dict of its own -/
def rIsD (K : PySem.W.Frag) (D a dd : Addr) : List V → Hp → VK → Prop := fun xs H Q => ∃ (c : V) (cv : Value) (b : Bool) (fs : List (Str × V)), xs = [.ref a, c] ∧ (∀ u, RelV c u → u = cv) ∧ H dd = some (.xd fs) ∧ PySem.W.kitOne K (.ref D) cv = some b ∧ Q (.bl b) H
theorem findObj_class {K : PySem.W.Frag} {C : Addr} {od : Obj} (hc : (PySem.W.clsIn K C).isSome = true) (ha : PySem.W.findIn K (.ref C) "__class__" = some (some (.builtin "object.__class__")))
    (hg : PySem.W.specialIn K (.builtin "object.__class__") "__get__" = some (some (.builtin "getset_descriptor.__get__"))) (ht : PySem.W.takesIn K (.builtin "object.__class__") = some true) :
    PySem.W.findObj K C (some od) "__class__" = some (.bind (.builtin "getset_descriptor.__get__") (.builtin "object.__class__")) := PySem.W.findObj_data hc ha hg ht
theorem call_isD {X : Cx} {a D dd : Addr} {oe : Obj} {pn : List (Addr × Obj)} (C : ExcC X.K D) (hz : Zc (.ref D) (some dd) oe) (hf : ∃ vs, oe.data = .fields vs) : CallR (X.suite a ((a, oe) :: pn)) (.builtin "isinstance") (rIsD X.K D a dd) := by
  intro pins s σ H xs us Q I r h
  obtain ⟨c, cv, b, fs, rfl, hcv, hdd, e, q⟩ := h
  obtain ⟨u1, u2, rfl, r1, r2⟩ := vals2 r
  cases r1
  have ec := hcv _ r2
  subst ec
  obtain ⟨hget, _⟩ := I.pin (a, oe) (List.mem_append.mpr (.inl List.mem_cons_self))
  obtain ⟨vs, hv⟩ := hf
  have hx : ObjOk X.prog X.w H s.heap dd (.xd fs) := I.hok dd _ hdd
  obtain ⟨mA, hns, hr⟩ := hx
  obtain ⟨od, ho, hl⟩ := lookIn_ns hns
  have J : PySem.W.InstAt s.heap a oe D (some od) := ⟨hget, hz.1, by unfold PySem.W.notCls; rw [hv] <;> rfl, by rw [hz.2]; exact ho⟩
  have hcl : (PySem.W.clsIn X.K D).isSome = true := by
    obtain ⟨cd, hc, _⟩ := PySem.W.any_some C.hd
    rw [hc]
    rfl
  exact PySem.W.kia_one (PySem.W.kitx_exc hcl C.hg C.hk C.hs C.ha C.hn C.ht C.hm) I.kIn J e (fun z => nomatch z) fun tk => ⟨.bl b, H, I.kept (t' := tk) fun _ _ z => z, rfl, q⟩
end LL
/-! ### try: .. except X as n: .. except Y as n: .. (one name n, slot i) -/
namespace LL
open PySem PySem.Spec PyProof.Rows L2
/-- what the clauses wish, one after the other -/
def wSome (K : PySem.W.Frag) (i : Nat) (Wout : WX) (D : Ends) : List (Value × (Addr → Value → Option Addr → TS)) → WX
  | [] => Wout
  | (c, ts) :: r => fun cls d σ H => ∃ b, PySem.W.exmOne K cls c = some b ∧
      (b = true → ∀ a, H a = none → ts a cls d { nx := fun σ' H' => D.nx (σ'.set i none) H', rt := D.rt, bk := fun σ' H' => D.bk (σ'.set i none) H', ct := fun σ' H' => D.ct (σ'.set i none) H' } (σ.set i (some (.ref a))) H) ∧
      (b = false → wSome K i Wout D r cls d σ H)
inductive HdsN (X : Cx) (n : Str) : List ExceptHandler → List (Value × (Addr → Value → Option Addr → TS)) → Prop
  | nil : HdsN X n [] []
  | cons {x : Str} {c : Value} {ts : Addr → Value → Option Addr → TS} {b0 : Stmt} {suite : List Stmt} {np pos' : Pos} {hds : List ExceptHandler} {l : List (Value × (Addr → Value → Option Addr → TS))} (hc : Names X x c)
      (hsu : ∀ (a : Addr) (oe : Obj) (cls : Value) (d : Option Addr) (pn : List (Addr × Obj)), Zc cls d oe → (∃ vs, oe.data = .fields vs) → PSs (X.suite a ((a, oe) :: pn)) (b0 :: suite) (ts a cls d)) (r : HdsN X n hds l) :
      HdsN X n (.ExceptHandler (some (.Name x np)) (some n) (b0 :: suite) pos' :: hds) ((c, ts) :: l)
section
variable {X : Cx} {n : Str} {i : Nat} {body : List Stmt} {h0 : ExceptHandler} {hds : List ExceptHandler} {l : List (Value × (Addr → Value → Option Addr → TS))} {pos : Pos} {tb : WX → TS} {Wout : WX}
theorem ps_try_some (hs : X.stack = X.env :: X.outer) (hf : X.env.frame = some X.env.locals) (hN : X.N.Nodup) (hi : X.N[i]? = some n) (hln : X.env.kindOf n = some .local) (tk : Takes X Wout)
    (hb : ∀ (W : WX) (pn : List (Addr × Obj)) (xe : Value → Shared → Prop), Takes (X.tr pn xe) W → PassesOwn (model X.prog X.w) X.A X.env xe → PSs (X.tr pn xe) body (tb W))
    (hh : HdsN X n (h0 :: hds) l) : PS X (.Try body (h0 :: hds) [] [] pos) (fun D σ H => tb (wSome X.K i Wout D l) D σ H) := by
  refine ⟨fun pins s σ H D I h => ?_⟩
  have ok := I.ok
  have hfr : X.A.frames = some (X.env :: X.outer) := by rw [ok.frames, hs]
  have hloc : Loc X.env.scope n := .inl hln
  refine wpAny_Try_except ?_
  refine wpAny_mono ((hb (wSome X.K i Wout D l) (X.pn ++ pins) (fun e s1 => wpAny (model X.prog X.w) X.A (noteFrame e X.env) (fun _ s2 => wpAny (model X.prog X.w) X.A (setFlight e none) (fun _ s3 =>
    wpAny (model X.prog X.w) X.A (handleBy e X.env (h0 :: hds)) (SP X pins D) X.xe s3) X.xe s2) X.xe s1) (fun u s' xx => ?_) PassesOwn.looking).run [] s σ H D (I.toTry _) h) (fun f s1 hsp => ?_) (fun e s1 he => he)
  · obtain ⟨a, B, sI, pins', σ', H', cls, d, rfl, J', nb, up, sky, na, os, ag, w⟩ := xx
    have J : Inv X pins σ' H' sI := J'.ofTry ok
    have sky' : Sky B (X.env :: X.outer) a (Zc cls d) X.env.locals s'.heap := by rw [← hs]; exact sky
    show wpAny (model X.prog X.w) X.A (noteFrame (.ref a) X.env) _ _ _
    refine Sky.land Zc.steady hfr hf sky' fun h3 fl3 up3 => ?_
    have J3 : Inv X pins σ' H' { s' with heap := h3 } := J.landed nb fl3.1 (up.trans up3) os ag
    obtain ⟨oe3, vs3, he3, hz3, hd3⟩ := fl3.there
    have notFr : ∀ {h : Heap} {o : Obj} {vs : Array Value}, h.FunFrames B (X.env :: X.outer) → h.get? a = some o → o.data = .fields vs → a ∉ frs (X.env :: X.outer) := fun {h o vs} ff e dd hm => by
      obtain ⟨_, o', e', hnf⟩ := ff.mem hm
      rw [e] at e'; cases e'
      exact hnf _ dd
    have nfr := notFr fl3.2.2.1 he3 hd3
    have nL : a ≠ X.env.locals := fun z => nfr (List.mem_filterMap.mpr ⟨X.env, List.mem_cons_self, by rw [hf, z]⟩)
    have nF : a ∉ X.fs := fun hm => by
      obtain ⟨e, he, q⟩ := List.mem_filterMap.mp hm
      exact nfr (List.mem_filterMap.mpr ⟨e, List.mem_cons_of_mem _ he, q⟩)
    have S3 := J3.suite he3 hd3 na nL nF
    have go : ∀ {hds' : List ExceptHandler} {l' : List (Value × (Addr → Value → Option Addr → TS))}, HdsN X n hds' l' → wSome X.K i Wout D l' cls d σ' H' →
        wpAny (model X.prog X.w) X.A (handleBy (.ref a) X.env hds') (SP X pins D) X.xe { s' with heap := h3 } := by
      intro hds' l' hk
      induction hk with
      | nil =>
        intro w
        refine wpAny_handleBy_nil ?_
        obtain ⟨k1, k2, k3, oe, vs, T, oT, ts', he, hz, hd, h1, hr⟩ := id fl3
        unfold PySem.passOn
        refine wpAny_bind (wpAny_field he hd h1 ?_)
        rw [if_neg (show ¬ ((Value.ref T == Value.none) = true) from by simp)]
        have fin : wpAny (model X.prog X.w) X.A (setFlight (.ref a) X.env.frame) (fun _ s4 => wpAny (model X.prog X.w) X.A (throw (.ref a) : Sem Flow) (SP X pins D) X.xe s4) X.xe { s' with heap := h3 } := by
          rw [hf]
          refine HandSPX.setFlight_upZ fl3 fun h4 hh4 up4 => wpAny_throw (tk _ _ ?_)
          exact ⟨a, B, sI, pins, σ', H', cls, d, rfl, J, nb, (up.trans up3).trans up4, .inr (.inr (by rw [hs]; exact hh4)), na, os, ag, w⟩
        first
          | exact wpAny_bind (wpAny_pure (wpAny_bind fin))
          | exact wpAny_bind fin
      | @cons x c ts b0 suite np pos' hds2 l2 hc hsu r ih =>
        intro w
        obtain ⟨b, hb1, hyes, hno⟩ := w
        refine wpAny_handleBy_cons (codeAny_handlers_test ?_) (by intro q; cases q)
        have LT : PySem.W.Looks (model X.prog X.w) h3 (typeOf (.ref a)) cls := fun A Q E s k q => wpAny_typeOf_ref (k _ _ he3) (by rw [hz3.1]; exact q)
        have LM := PySem.W.exm_one (M := model X.prog X.w) (J3.kIn) LT hb1
        have test : ∀ {Q : Value → Shared → Prop} {E : Value → Shared → Prop}, Q c { s' with heap := h3 } → wpAny (model X.prog X.w) (X.A.mark (some (.ref a))) (eval (.Name x np) X.env) Q E { s' with heap := h3 } := fun {Q E} q => by
          obtain ⟨hg, hdbg, hm | ⟨hm, hv, hnn⟩⟩ := hc
          · exact ld_glob (X := X.suite a ((a, oe3) :: (X.pn ++ pins))) S3 hg hm q hdbg
          · exact ld_blt (X := X.suite a ((a, oe3) :: (X.pn ++ pins))) S3 hg hm hv q hnn hdbg
        refine test (LM.here ?_)
        cases b with
        | true =>
          refine codeAny_handlers_suite_as ?_
          refine HandSPX.lands_againZ fl3 fun h4 fl4 up4 => ?_
          have J4 : Inv X pins σ' H' { s' with heap := h4 } := J.landed nb fl4.1 ((up.trans up3).trans up4) os ag
          obtain ⟨oe4, vs4, he4, hz4, hd4⟩ := fl4.there
          have S4 := J4.suite he4 hd4 na nL nF
          refine store_ok (X := X.suite a ((a, oe4) :: (X.pn ++ pins))) (v := .ref a) S4 hN hi hloc rfl (fun s5 S5 => ?_) (.inr hln)
          refine wpAny_mono ((hsu a oe4 cls d (X.pn ++ pins) hz4 ⟨_, hd4⟩).run [] s5 _ H' _ S5 (hyes rfl a na)) (fun f s6 hsp => ?_) (fun _ _ z => False.elim z)
          have end_ : ∀ {σ6 : L2.St} {H6 : Hp} {Q : Shared → Prop}, Inv (X.suite a ((a, oe4) :: (X.pn ++ pins))) [] σ6 H6 s6 → (∀ s7, Inv X pins (σ6.set i none) H6 s7 → Q s7) →
              wpAny (model X.prog X.w) X.A (do bindName X.env n .none; unbindBehindTheSuite X.env n pos') (fun _ s7 => Q s7) X.xe s6 := fun {σ6 H6 Q} S6 hq => gone_ok (S6.unsuite ok) hN hi hln hq
          cases f with
          | next =>
            obtain ⟨σ6, H6, S6, q6⟩ := hsp
            exact end_ S6 fun s7 J7 => ⟨_, _, J7, q6⟩
          | brk =>
            obtain ⟨σ6, H6, S6, q6⟩ := hsp
            exact end_ S6 fun s7 J7 => ⟨_, _, J7, q6⟩
          | cont =>
            obtain ⟨σ6, H6, S6, q6⟩ := hsp
            exact end_ S6 fun s7 J7 => ⟨_, _, J7, q6⟩
          | ret u =>
            obtain ⟨v6, σ6, H6, S6, r6, q6⟩ := hsp
            exact end_ S6 fun s7 J7 => ⟨_, _, _, J7, r6, q6⟩
        | false =>
          show wpAny _ X.A (handleBy (.ref a) X.env hds2) _ _ _
          exact ih (hno rfl)
    exact go hh w
  · cases f with
    | next =>
      obtain ⟨σ', H', J', q⟩ := hsp
      exact wpAny_execs_nil ⟨σ', H', J'.ofTry ok, q⟩
    | brk =>
      obtain ⟨σ', H', J', q⟩ := hsp
      exact ⟨σ', H', J'.ofTry ok, q⟩
    | cont =>
      obtain ⟨σ', H', J', q⟩ := hsp
      exact ⟨σ', H', J'.ofTry ok, q⟩
    | ret u =>
      obtain ⟨v, σ', H', J', r, q⟩ := hsp
      exact ⟨v, σ', H', J'.ofTry ok, r, q⟩
end
end LL
/-! ### the texts: numbers, parts, dumps; read back -/
namespace LL
open PySem PySem.Spec PyProof.Rows L2 TL
/-- str(i) -/
def num (i : Int) : Str := toString i
def sp1 : Str := " "
def bar : Str := " | "
def nonE : Str := "none"
def ptx (l : List Int) : Str := Txt.join sp1 (l.map num)
def gone (n : Nat) (f : List Bool) : List Int := ((List.range n).filter fun k => f.getD (k + 1) false).map fun k : Nat => ((k : Int) + 1)
def gtx (n : Nat) (f : List Bool) : Str := if gone n f = [] then nonE else ptx (gone n f)
def dmp (n : Nat) (r l : List Int) (f : List Bool) : Str := Txt.join bar [ptx r, ptx (l.drop 1), gtx n f]
theorem tl_sp1 : tl sp1 = [32] := by decide +kernel
theorem tl_bar : tl bar = [32, 124, 32] := by decide +kernel
theorem tl_nonE : tl nonE = [110, 111, 110, 101] := by decide +kernel
theorem tl_num_nn {i : Int} (h : 0 ≤ i) : tl (num i) = numL i.toNat := by
  have e : i = ((i.toNat : Nat) : Int) := by omega
  have q := tl_num i.toNat
  rw [← e] at q
  exact q
theorem num_shape {i : Int} (h0 : 0 ≤ i) (h1 : i < 100) : (i < 10 ∧ tl (num i) = [48 + i.toNat]) ∨ (10 ≤ i ∧ tl (num i) = [48 + i.toNat / 10, 48 + i.toNat % 10]) := by
  rw [tl_num_nn h0]
  by_cases c : i < 10
  · exact .inl ⟨c, numL_lt (by omega)⟩
  · refine .inr ⟨by omega, ?_⟩
    rw [numL_step (by omega), numL_lt (by omega)]
    rfl
theorem num_free {i : Int} (h0 : 0 ≤ i) {s : Nat} (h : s < 48 ∨ 57 < s) : s ∉ tl (num i) := by
  rw [tl_num_nn h0]
  exact numL_free h
theorem num_ne {i : Int} (h0 : 0 ≤ i) : tl (num i) ≠ [] := by
  rw [tl_num_nn h0]
  exact numL_ne _
theorem num_inj {i j : Int} (hi : 0 ≤ i) (hj : 0 ≤ j) (h : num i = num j) : i = j := by
  have e : tl (num i) = tl (num j) := by rw [h]
  rw [tl_num_nn hi, tl_num_nn hj] at e
  have := numL_inj e
  omega
theorem num_len {i : Int} (h0 : 0 ≤ i) (h1 : i < 100) : 1 ≤ (num i).length ∧ (num i).length ≤ 2 := by
  rw [len_tl]
  rcases num_shape h0 h1 with ⟨_, e⟩ | ⟨_, e⟩ <;> rw [e] <;> simp
theorem dig_ok (c : Nat) (h : 48 ≤ c ∧ c ≤ 57) : Unicode.isDigit c = true := by
  obtain ⟨h1, h2⟩ := h
  have : c = 48 ∨ c = 49 ∨ c = 50 ∨ c = 51 ∨ c = 52 ∨ c = 53 ∨ c = 54 ∨ c = 55 ∨ c = 56 ∨ c = 57 := by omega
  rcases this with rfl | rfl | rfl | rfl | rfl | rfl | rfl | rfl | rfl | rfl <;> decide +kernel
theorem num_chars {i : Int} (h0 : 0 ≤ i) (h1 : i < 100) : ∀ c ∈ tl (num i), 48 ≤ c ∧ c ≤ 57 := by
  intro c hc
  rcases num_shape h0 h1 with ⟨_, e⟩ | ⟨_, e⟩ <;> rw [e] at hc <;> simp at hc <;> omega
theorem num_ascii {i : Int} (h0 : 0 ≤ i) (h1 : i < 100) : Txt.isascii (num i) = true := by
  unfold Txt.isascii
  rw [← Array.all_toList, List.all_eq_true]
  intro c hc
  have := num_chars h0 h1 c hc
  simp
  omega
theorem num_digit {i : Int} (h0 : 0 ≤ i) (h1 : i < 100) : Txt.isdigit (num i) = true := by
  unfold Txt.isdigit
  rw [Bool.and_eq_true, ← Array.all_toList, List.all_eq_true]
  refine ⟨?_, fun c hc => dig_ok c (num_chars h0 h1 c hc)⟩
  have := num_len h0 h1
  simp
  omega
/-- the first sign -/
theorem num_head {i : Int} (h0 : 0 ≤ i) (h1 : i < 100) : ∃ c, (num i).cps[0]? = some c ∧ (c = 48 → num i = ("0" : Str)) := by
  have tz : tl ("0" : Str) = [48] := by decide +kernel
  rcases num_shape h0 h1 with ⟨q, e⟩ | ⟨q, e⟩
  · refine ⟨48 + i.toNat, ?_, fun z => ?_⟩
    · rw [← Array.getElem?_toList]
      show (tl (num i))[0]? = _
      rw [e]; rfl
    · refine ext_tl ?_
      rw [e, tz, z]
  · refine ⟨48 + i.toNat / 10, ?_, fun z => ?_⟩
    · rw [← Array.getElem?_toList]
      show (tl (num i))[0]? = _
      rw [e]; rfl
    · omega
theorem num_int {i : Int} (h0 : 0 ≤ i) (h1 : i < 100) : PySem.intText? (num i) = some i := by
  have e : i = ((i.toNat : Nat) : Int) := by omega
  have q := int_num (n := i.toNat) (by have := num_len h0 h1; rw [len_tl, tl_num_nn h0] at this; omega)
  rw [← e] at q
  exact q
/-! #### parts -/
def Small (l : List Int) : Prop := ∀ x ∈ l, 0 ≤ x ∧ x < 100
theorem tl_ptx {l : List Int} : tl (ptx l) = joinL [32] (l.map fun x => tl (num x)) := by
  unfold ptx
  rw [join_eq, tl_join, tl_sp1, List.map_map]
  rfl
theorem split_ptx {l : List Int} (hl : l ≠ []) (h : Small l) : Txt.split (ptx l) sp1 = l.map num := by
  refine split_join (s := 32) (S := []) tl_sp1 (by decide +kernel) (fun e => hl (List.map_eq_nil_iff.mp e)) fun p hp => ?_
  obtain ⟨x, hx, rfl⟩ := List.mem_map.mp hp
  exact num_free (h x hx).1 (by omega)
/-- the separator is met nowhere within words -/
theorem pre_sp {c : Nat} {r : List Nat} (h : c ≠ 124) : pre [32, 124, 32] (32 :: c :: r) = false := by
  unfold pre
  simp [h]
theorem spl_word {rest : List Nat} : ∀ (w acc : List Nat), (32 : Nat) ∉ w → spl [32, 124, 32] 0 acc (w ++ rest) = spl [32, 124, 32] 0 (acc ++ w) rest
  | [], acc, _ => by simp
  | c :: w, acc, h => by
    have hc : c ≠ 32 := fun z => h (by rw [z]; exact List.mem_cons_self)
    show spl _ 0 acc (c :: (w ++ rest)) = _
    rw [spl_miss (pre_of_head _ _ hc), spl_word w (acc ++ [c]) (fun z => h (List.mem_cons_of_mem _ z)), List.append_assoc]
    rfl
theorem spl_words {rest : List Nat} : ∀ (ws : List (List Nat)) (acc : List Nat), (∀ w ∈ ws, w ≠ [] ∧ (32 : Nat) ∉ w ∧ (124 : Nat) ∉ w) → spl [32, 124, 32] 0 acc (joinL [32] ws ++ rest) = spl [32, 124, 32] 0 (acc ++ joinL [32] ws) rest
  | [], acc, _ => by simp [joinL]
  | [w], acc, h => spl_word w acc (h w List.mem_cons_self).2.1
  | w :: v :: ws, acc, h => by
    have hw := h w List.mem_cons_self
    have hv := h v (List.mem_cons_of_mem _ List.mem_cons_self)
    have e : joinL [32] (w :: v :: ws) = w ++ (32 :: joinL [32] (v :: ws)) := rfl
    obtain ⟨c, t, ec⟩ : ∃ c t, joinL [32] (v :: ws) = c :: t ∧ c ≠ 124 := by
      obtain ⟨v0, vt, rfl⟩ : ∃ a b, v = a :: b := by
        cases v with
        | nil => exact absurd rfl hv.1
        | cons a b => exact ⟨a, b, rfl⟩
      cases ws with
      | nil => exact ⟨v0, vt, rfl, fun z => hv.2.2 (by rw [z]; exact List.mem_cons_self)⟩
      | cons u us => exact ⟨v0, vt ++ ([32] ++ joinL [32] (u :: us)), rfl, fun z => hv.2.2 (by rw [z]; exact List.mem_cons_self)⟩
    have ih := spl_words (rest := rest) (v :: ws) (acc ++ w ++ [32]) fun x hx => h x (List.mem_cons_of_mem _ hx)
    rw [e, List.append_assoc, spl_word w acc hw.2.1]
    show spl _ 0 (acc ++ w) (32 :: (joinL [32] (v :: ws) ++ rest)) = _
    rw [spl_miss (by rw [ec.1]; exact pre_sp ec.2), ih]
    congr 1
    simp [List.append_assoc]
theorem spl_hit3 {acc rest : List Nat} : spl [32, 124, 32] 0 acc ([32, 124, 32] ++ rest) = acc :: spl [32, 124, 32] 0 [] rest := by
  show spl [32, 124, 32] 0 acc (32 :: 124 :: 32 :: rest) = _
  rw [spl_hit (by rfl)]
  rfl
theorem words_ok {l : List Int} (h : Small l) : ∀ w ∈ l.map (fun x => tl (num x)), w ≠ [] ∧ (32 : Nat) ∉ w ∧ (124 : Nat) ∉ w := by
  intro w hw
  obtain ⟨x, hx, rfl⟩ := List.mem_map.mp hw
  exact ⟨num_ne (h x hx).1, num_free (h x hx).1 (by omega), num_free (h x hx).1 (by omega)⟩
theorem gone_small {n : Nat} {f : List Bool} (hn : n ≤ 60) : Small (gone n f) := by
  intro x hx
  obtain ⟨k, hk, rfl⟩ := List.mem_map.mp hx
  have := List.mem_range.mp (List.mem_filter.mp hk).1
  omega
theorem spl_gtx {n : Nat} {f : List Bool} (hn : n ≤ 60) : spl [32, 124, 32] 0 [] (tl (gtx n f)) = [tl (gtx n f)] := by
  have nilw : ∀ acc : List Nat, spl [32, 124, 32] 0 acc [] = [acc] := fun acc => spl_nil _ _ _
  by_cases h : gone n f = []
  · have e : gtx n f = nonE := if_pos h
    rw [e, tl_nonE]
    have := spl_word (rest := []) [110, 111, 110, 101] [] (by decide)
    rw [List.append_nil] at this
    rw [this, nilw]
    rfl
  · have e : gtx n f = ptx (gone n f) := if_neg h
    rw [e, tl_ptx]
    have := spl_words (rest := []) _ [] (words_ok (gone_small (f := f) hn))
    rw [List.append_nil] at this
    rw [this, nilw]
    rfl
theorem split_dmp {n : Nat} {r l : List Int} {f : List Bool} (hn : n ≤ 60) (hr : Small r) (hl : Small (l.drop 1)) : Txt.split (dmp n r l f) bar = [ptx r, ptx (l.drop 1), gtx n f] := by
  refine map_tl_inj ?_
  rw [split_spl _ bar (by rw [tl_bar]; simp) (kind_ok (by decide +kernel))]
  unfold dmp
  rw [join_eq, tl_join, tl_bar]
  show spl [32, 124, 32] 0 [] (tl (ptx r) ++ ([32, 124, 32] ++ (tl (ptx (l.drop 1)) ++ ([32, 124, 32] ++ tl (gtx n f))))) = [tl (ptx r), tl (ptx (l.drop 1)), tl (gtx n f)]
  rw [tl_ptx, tl_ptx, spl_words _ _ (words_ok hr), spl_hit3, spl_words _ _ (words_ok hl), spl_hit3, spl_gtx hn]
  rfl
/-- a part of numbers is not the word none -/
theorem ptx_ne_none {l : List Int} (hl : l ≠ []) (h : Small l) : ptx l ≠ nonE := by
  intro e
  have q : tl (ptx l) = tl nonE := by rw [e]
  rw [tl_ptx, tl_nonE] at q
  cases l with
  | nil => exact hl rfl
  | cons x t =>
    have hx := h x List.mem_cons_self
    have hs := num_shape hx.1 hx.2
    have hd : ∃ c u, joinL [32] ((x :: t).map fun x => tl (num x)) = c :: u ∧ c ≤ 57 := by
      rcases hs with ⟨q1, e1⟩ | ⟨q1, e1⟩
      · cases t with
        | nil => exact ⟨48 + x.toNat, [], by simp [joinL, e1], by omega⟩
        | cons y t => exact ⟨48 + x.toNat, _, by simp [joinL, e1]; rfl, by omega⟩
      · cases t with
        | nil => exact ⟨48 + x.toNat / 10, _, by simp [joinL, e1]; rfl, by omega⟩
        | cons y t => exact ⟨48 + x.toNat / 10, _, by simp [joinL, e1]; rfl, by omega⟩
    obtain ⟨c, u, e2, hc⟩ := hd
    rw [e2] at q
    have := (List.cons.inj q).1
    omega
theorem map_num_inj : ∀ {l m : List Int}, Small l → Small m → l.map num = m.map num → l = m
  | [], [], _, _, _ => rfl
  | [], _ :: _, _, _, h => by simp at h
  | _ :: _, [], _, _, h => by simp at h
  | a :: l, b :: m, hl, hm, h => by
    rw [List.map_cons, List.map_cons] at h
    obtain ⟨h1, h2⟩ := List.cons.inj h
    rw [num_inj (hl a List.mem_cons_self).1 (hm b List.mem_cons_self).1 h1, map_num_inj (fun x hx => hl x (List.mem_cons_of_mem _ hx)) (fun x hx => hm x (List.mem_cons_of_mem _ hx)) h2]
theorem ptx_inj {l m : List Int} (hl : l ≠ []) (hm : m ≠ []) (sl : Small l) (sm : Small m) (h : ptx l = ptx m) : l = m := by
  refine map_num_inj sl sm ?_
  rw [← split_ptx hl sl, ← split_ptx hm sm, h]
theorem gtx_inj {n : Nat} {f g : List Bool} (hn : n ≤ 60) (h : gtx n f = gtx n g) : gone n f = gone n g := by
  unfold gtx at h
  by_cases a : gone n f = []
  · rw [if_pos a] at h
    by_cases b : gone n g = []
    · rw [a, b]
    · rw [if_neg b] at h
      exact absurd h.symm (ptx_ne_none b (gone_small hn))
  · rw [if_neg a] at h
    by_cases b : gone n g = []
    · rw [if_pos b] at h
      exact absurd h (ptx_ne_none a (gone_small hn))
    · rw [if_neg b] at h
      exact ptx_inj a b (gone_small hn) (gone_small hn) h
/-! #### standings -/
/-- a standing of size n, by the law's three lists: the right links of 0 .. n, the left links of 0 .. n + 1 (that of 0 is -1), the nodes that are out -/
structure Wld (n : Nat) (r l : List Int) (f : List Bool) : Prop where
  hn : n ≤ 60
  lr : r.length = n + 1
  ll : l.length = n + 2
  lf : f.length = n + 2
  r1 : ∀ (v : Nat) (x : Int), r[v]? = some x → (v : Int) < x ∧ x ≤ n + 1
  l0 : l[0]? = some (-1)
  l1 : ∀ (v : Nat) (x : Int), l[v + 1]? = some x → 0 ≤ x ∧ x ≤ v
  f0 : f[0]? = some false
  f1 : f[n + 1]? = some false
theorem Wld.rs {n : Nat} {r l : List Int} {f : List Bool} (w : Wld n r l f) : Small r := by
  intro x hx
  obtain ⟨v, hv⟩ := List.getElem?_of_mem hx
  have := w.r1 v x hv
  have := w.hn
  omega
theorem Wld.ls {n : Nat} {r l : List Int} {f : List Bool} (w : Wld n r l f) : Small (l.drop 1) := by
  intro x hx
  obtain ⟨v, hv⟩ := List.getElem?_of_mem hx
  rw [List.getElem?_drop] at hv
  rw [Nat.add_comm] at hv
  have h1 := w.l1 v x hv
  have h2 := (List.getElem?_eq_some_iff.mp hv).1
  have := w.hn
  have := w.ll
  omega
theorem Wld.rne {n : Nat} {r l : List Int} {f : List Bool} (w : Wld n r l f) : r ≠ [] := by
  intro e
  have := w.lr
  rw [e] at this
  simp at this
theorem Wld.lne {n : Nat} {r l : List Int} {f : List Bool} (w : Wld n r l f) : l.drop 1 ≠ [] := by
  intro e
  have h := congrArg List.length e
  rw [List.length_drop, w.ll] at h
  simp at h
theorem mem_gone {n : Nat} {f : List Bool} {k : Nat} (hk : k < n) : ((k : Int) + 1) ∈ gone n f ↔ f.getD (k + 1) false = true := by
  unfold gone
  rw [List.mem_map]
  constructor
  · rintro ⟨j, hj, e⟩
    have e' : j = k := by omega
    rw [← e']
    exact (List.mem_filter.mp hj).2
  · intro h
    exact ⟨k, List.mem_filter.mpr ⟨List.mem_range.mpr hk, h⟩, rfl⟩
theorem flags_eq {n : Nat} {r l r' l' : List Int} {f g : List Bool} (w : Wld n r l f) (w' : Wld n r' l' g) (h : gone n f = gone n g) : f = g := by
  refine List.ext_getElem? fun i => ?_
  by_cases h0 : i = 0
  · rw [h0, w.f0, w'.f0]
  by_cases h1 : i = n + 1
  · rw [h1, w.f1, w'.f1]
  by_cases h2 : i < n + 2
  · obtain ⟨k, rfl⟩ : ∃ k, i = k + 1 := ⟨i - 1, by omega⟩
    have hk : k < n := by omega
    have lf := w.lf
    have lg := w'.lf
    have e1 : f[k + 1]? = some (f.getD (k + 1) false) := by
      rw [List.getD_eq_getElem?_getD, List.getElem?_eq_getElem (by omega)]
      rfl
    have e2 : g[k + 1]? = some (g.getD (k + 1) false) := by
      rw [List.getD_eq_getElem?_getD, List.getElem?_eq_getElem (by omega)]
      rfl
    have m1 := mem_gone (f := f) hk
    have m2 := mem_gone (f := g) hk
    rw [h] at m1
    rw [e1, e2]
    congr 1
    have m3 := m1.symm.trans m2
    cases a : f.getD (k + 1) false <;> cases b : g.getD (k + 1) false <;> simp_all
  · rw [List.getElem?_eq_none (by have := w.lf; omega), List.getElem?_eq_none (by have := w'.lf; omega)]
theorem dmp_inj {n : Nat} {r l r' l' : List Int} {f g : List Bool} (w : Wld n r l f) (w' : Wld n r' l' g) (h : dmp n r l f = dmp n r' l' g) : r = r' ∧ l = l' ∧ f = g := by
  have e := split_dmp (f := f) w.hn w.rs w.ls
  rw [h, split_dmp (f := g) w'.hn w'.rs w'.ls] at e
  obtain ⟨e1, e⟩ := List.cons.inj e
  obtain ⟨e2, e⟩ := List.cons.inj e
  obtain ⟨e3, _⟩ := List.cons.inj e
  have q1 := ptx_inj w'.rne w.rne w'.rs w.rs e1
  have q2 := ptx_inj w'.lne w.lne w'.ls w.ls e2
  have q3 := flags_eq w' w (gtx_inj w.hn e3)
  refine ⟨q1.symm, ?_, q3.symm⟩
  have z1 : l = (-1) :: l.drop 1 := by
    have h0 := w.l0
    cases l with
    | nil => simp at h0
    | cons a t =>
      simp at h0
      subst h0
      rfl
  have z2 : l' = (-1) :: l'.drop 1 := by
    have h0 := w'.l0
    cases l' with
    | nil => simp at h0
    | cons a t =>
      simp at h0
      subst h0
      rfl
  rw [z1, z2, q2]
end LL
/-! ### the text by places; what the top has written -/
namespace LL
open PySem PySem.Spec PyProof.Rows L2
abbrev PW : Program := PySem.Challenge.pw_latelink_k02_whole_one_operation
def top (i : Nat) : Stmt := PW.main.body.getD i (.Pass ⟨0, 0, 0, 0⟩)
abbrev st_cs : Stmt := top 14
abbrev st_co : Stmt := top 15
abbrev st_inu : Stmt := top 16
abbrev st_nums : Stmt := top 19
abbrev st_rr : Stmt := top 20
abbrev st_rl : Stmt := top 21
abbrev st_ro : Stmt := top 22
abbrev st_ini : Stmt := inClass (top 23) 1
abbrev st_bui : Stmt := inClass (top 23) 2
abbrev st_rea : Stmt := inClass (top 23) 3
abbrev st_lef : Stmt := inClass (top 23) 4
abbrev st_rig : Stmt := inClass (top 23) 5
abbrev st_iso : Stmt := inClass (top 23) 6
abbrev st_app : Stmt := inClass (top 23) 9
abbrev st_apa : Stmt := inClass (top 23) 10
abbrev st_cop : Stmt := inClass (top 23) 15
abbrev st_dum : Stmt := inClass (top 23) 16
abbrev st_dpa : Stmt := inClass (top 23) 17
abbrev st_sst : Stmt := inClass (top 23) 18
abbrev st_sle : Stmt := inClass (top 23) 19
abbrev st_seq : Stmt := inClass (top 23) 21
abbrev st_box : Stmt := top 25
abbrev st_draw : Stmt := top 26
abbrev st_lis : Stmt := top 27
abbrev st_lsize : Stmt := top 28
abbrev st_lfar : Stmt := top 29
abbrev st_lwor : Stmt := top 30
abbrev st_lben : Stmt := top 31
abbrev st_ldum : Stmt := top 32
abbrev st_lwri : Stmt := top 33
abbrev st_lsho : Stmt := top 34
abbrev st_lnr : Stmt := top 35
abbrev st_lnrs : Stmt := top 36
abbrev st_lwho : Stmt := top 37
abbrev st_lequ : Stmt := top 38
abbrev st_leqr : Stmt := top 39
abbrev st_lnea : Stmt := top 40
abbrev st_lope : Stmt := top 41
abbrev st_lref : Stmt := top 42
abbrev st_ltur : Stmt := top 43
abbrev st_law : Stmt := top 44
abbrev st_BO : Stmt := inClass (top 4) 0
abbrev st_IL : Stmt := inClass (top 5) 0
abbrev st_BS : Stmt := inClass (top 7) 0
abbrev st_BN : Stmt := inClass (top 8) 0
/-- where the classes and the defs stand -/
structure Ad where
  L : Addr
  mc : Value
  pbui : Addr
  prea : Addr
  cs : Addr
  co : Addr
  inu : Addr
  nums : Addr
  rr : Addr
  rl : Addr
  ro : Addr
  ini : Addr
  bui : Addr
  rea : Addr
  lef : Addr
  rig : Addr
  iso : Addr
  app : Addr
  apa : Addr
  cop : Addr
  dum : Addr
  dpa : Addr
  sst : Addr
  sle : Addr
  seq : Addr
  box : Addr
  draw : Addr
  lis : Addr
  lsize : Addr
  lfar : Addr
  lwor : Addr
  lben : Addr
  ldum : Addr
  lwri : Addr
  lsho : Addr
  lnr : Addr
  lnrs : Addr
  lwho : Addr
  lequ : Addr
  leqr : Addr
  lnea : Addr
  lope : Addr
  lref : Addr
  ltur : Addr
  law : Addr
  BO : Addr
  iBO : Addr
  IL : Addr
  iIL : Addr
  BS : Addr
  iBS : Addr
  BN : Addr
  iBN : Addr
  RE : Addr
  BG : Addr
  LO : Addr
  LI : Addr
/-- a def stands at f -/
def Dn (K : PySem.W.Frag) (x qual : Str) (st : Stmt) (ps : List Str) (f : Addr) : Prop := ∃ fd, Fun K x qual st f fd ∧ Binds K fd ps []
structure Txt (K : PySem.W.Frag) (mg : Str → Option Value) (a : Ad) : Prop where
  d_cs : Dn K "check_size" "check_size" st_cs ["size"] a.cs
  g_cs : mg "check_size" = some (.ref a.cs)
  d_co : Dn K "check_operation" "check_operation" st_co ["size", "operation", "index"] a.co
  g_co : mg "check_operation" = some (.ref a.co)
  d_inu : Dn K "is_number" "is_number" st_inu ["word"] a.inu
  g_inu : mg "is_number" = some (.ref a.inu)
  d_nums : Dn K "_numbers" "_numbers" st_nums ["part"] a.nums
  g_nums : mg "_numbers" = some (.ref a.nums)
  d_rr : Dn K "_read_rights" "_read_rights" st_rr ["part"] a.rr
  g_rr : mg "_read_rights" = some (.ref a.rr)
  d_rl : Dn K "_read_lefts" "_read_lefts" st_rl ["part", "size"] a.rl
  g_rl : mg "_read_lefts" = some (.ref a.rl)
  d_ro : Dn K "_read_outs" "_read_outs" st_ro ["part", "size"] a.ro
  g_ro : mg "_read_outs" = some (.ref a.ro)
  d_ini : Dn K "__init__" "Links.__init__" st_ini ["self", "size"] a.ini
  d_bui : Dn K "built" "Links.built" st_bui ["size", "lefts", "rights", "flags"] a.bui
  m_bui : SMet K a.L a.mc "built" a.pbui a.bui
  d_rea : Dn K "read" "Links.read" st_rea ["text"] a.rea
  m_rea : SMet K a.L a.mc "read" a.prea a.rea
  d_lef : Dn K "left" "Links.left" st_lef ["self", "node"] a.lef
  m_lef : Meth K a.L "left" a.lef
  d_rig : Dn K "right" "Links.right" st_rig ["self", "node"] a.rig
  m_rig : Meth K a.L "right" a.rig
  d_iso : Dn K "is_out" "Links.is_out" st_iso ["self", "node"] a.iso
  m_iso : Meth K a.L "is_out" a.iso
  d_app : Dn K "apply" "Links.apply" st_app ["self", "operation"] a.app
  m_app : Meth K a.L "apply" a.app
  d_apa : Dn K "apply_at" "Links.apply_at" st_apa ["self", "operation", "index"] a.apa
  m_apa : Meth K a.L "apply_at" a.apa
  d_cop : Dn K "copy" "Links.copy" st_cop ["self"] a.cop
  m_cop : Meth K a.L "copy" a.cop
  d_dum : Dn K "dump" "Links.dump" st_dum ["self"] a.dum
  m_dum : Meth K a.L "dump" a.dum
  d_dpa : Dn K "_dump_parts" "Links._dump_parts" st_dpa ["self"] a.dpa
  m_dpa : Meth K a.L "_dump_parts" a.dpa
  d_sst : Dn K "__str__" "Links.__str__" st_sst ["self"] a.sst
  m_sst : Spc K a.L "__str__" a.sst
  d_sle : Dn K "__len__" "Links.__len__" st_sle ["self"] a.sle
  m_sle : Spc K a.L "__len__" a.sle
  d_seq : Dn K "__eq__" "Links.__eq__" st_seq ["self", "other"] a.seq
  m_seq : Spc K a.L "__eq__" a.seq
  d_box : Dn K "_law_box" "_law_box" st_box ["_law_script"] a.box
  g_box : mg "_law_box" = some (.ref a.box)
  d_draw : Dn K "_law_draw" "_law_draw" st_draw ["_law_box_here", "_law_many"] a.draw
  g_draw : mg "_law_draw" = some (.ref a.draw)
  d_lis : Dn K "_law_is" "_law_is" st_lis ["_law_told", "_law_due"] a.lis
  g_lis : mg "_law_is" = some (.ref a.lis)
  d_lsize : Dn K "_law_size" "_law_size" st_lsize ["_law_box_here"] a.lsize
  g_lsize : mg "_law_size" = some (.ref a.lsize)
  d_lfar : Dn K "_law_far_size" "_law_far_size" st_lfar ["_law_box_here"] a.lfar
  g_lfar : mg "_law_far_size" = some (.ref a.lfar)
  d_lwor : Dn K "_law_world" "_law_world" st_lwor ["_law_box_here", "_law_size_here"] a.lwor
  g_lwor : mg "_law_world" = some (.ref a.lwor)
  d_lben : Dn K "_law_bend" "_law_bend" st_lben ["_law_box_here", "_law_size_here", "_law_rights", "_law_lefts"] a.lben
  g_lben : mg "_law_bend" = some (.ref a.lben)
  d_ldum : Dn K "_law_dump" "_law_dump" st_ldum ["_law_size_here", "_law_rights", "_law_lefts", "_law_outs"] a.ldum
  g_ldum : mg "_law_dump" = some (.ref a.ldum)
  d_lwri : Dn K "_law_write" "_law_write" st_lwri ["_law_rights", "_law_lefts", "_law_outs", "_law_operation_here"] a.lwri
  g_lwri : mg "_law_write" = some (.ref a.lwri)
  d_lsho : Dn K "_law_shown" "_law_shown" st_lsho ["_law_links", "_law_size_here", "_law_rights", "_law_lefts", "_law_outs"] a.lsho
  g_lsho : mg "_law_shown" = some (.ref a.lsho)
  d_lnr : Dn K "_law_node_refused" "_law_node_refused" st_lnr ["_law_way", "_law_links", "_law_node"] a.lnr
  g_lnr : mg "_law_node_refused" = some (.ref a.lnr)
  d_lnrs : Dn K "_law_nodes_refused" "_law_nodes_refused" st_lnrs ["_law_links", "_law_size_here", "_law_far"] a.lnrs
  g_lnrs : mg "_law_nodes_refused" = some (.ref a.lnrs)
  d_lwho : Dn K "_law_whole_right" "_law_whole_right" st_lwho ["_law_size_here", "_law_far"] a.lwho
  g_lwho : mg "_law_whole_right" = some (.ref a.lwho)
  d_lequ : Dn K "_law_equal" "_law_equal" st_lequ ["_law_links", "_law_other", "_law_due"] a.lequ
  g_lequ : mg "_law_equal" = some (.ref a.lequ)
  d_leqr : Dn K "_law_equals_right" "_law_equals_right" st_leqr ["_law_links", "_law_size_here", "_law_world_here", "_law_near_here"] a.leqr
  g_leqr : mg "_law_equals_right" = some (.ref a.leqr)
  d_lnea : Dn K "_law_near" "_law_near" st_lnea ["_law_box_here", "_law_size_here", "_law_world_here"] a.lnea
  g_lnea : mg "_law_near" = some (.ref a.lnea)
  d_lope : Dn K "_law_operation" "_law_operation" st_lope ["_law_box_here", "_law_size_here", "_law_outs"] a.lope
  g_lope : mg "_law_operation" = some (.ref a.lope)
  d_lref : Dn K "_law_refused" "_law_refused" st_lref ["_law_links", "_law_operation_here", "_law_bad"] a.lref
  g_lref : mg "_law_refused" = some (.ref a.lref)
  d_ltur : Dn K "_law_turn_right" "_law_turn_right" st_ltur ["_law_links", "_law_size_here", "_law_rights", "_law_lefts", "_law_outs", "_law_operation_here"] a.ltur
  g_ltur : mg "_law_turn_right" = some (.ref a.ltur)
  d_law : Dn K "law" "law" st_law ["_law_script"] a.law
  g_law : mg "law" = some (.ref a.law)
  g_L : mg "Links" = some (.ref a.L)
  clL : Cls K a.L
  mkL : Mk K a.L a.ini
  crL : ClX.CRead K a.L a.mc
  most : ∃ t, ClX.CVal K a.L a.mc "MOST" (.int 60) (.int 60 t)
  nL_size : NoAttr K a.L "size"
  nL_lefts : NoAttr K a.L "_lefts"
  nL_rights : NoAttr K a.L "_rights"
  nL_flags : NoAttr K a.L "_flags"
  nfi : PySem.W.notFirst K a.L (.type "int") = true
  nfs : PySem.W.notFirst K a.L (.type "str") = true
  tcl : PySem.W.findIn K (.ref a.L) "__class__" = some (some (.builtin "object.__class__"))
  tsp : PySem.W.specialIn K (.builtin "object.__class__") "__get__" = some (some (.builtin "getset_descriptor.__get__"))
  ttk : PySem.W.takesIn K (.builtin "object.__class__") = some true
  tmo : PySem.W.mroIn K a.L (.type "object") = some true
  kLL : PySem.W.kitOne K (.ref a.L) (.ref a.L) = some true
  kiL : PySem.W.kitOne K (.type "int") (.ref a.L) = some false
  ksL : PySem.W.kitOne K (.type "str") (.ref a.L) = some false
  g_BO : mg "BadOperation" = some (.ref a.BO)
  x_BO : ExC K a.BO
  i_BO : IniF PW K a.BO a.iBO "BadOperation.__init__" st_BO
  c_BO : L2.ExcC K a.BO
  f_BO : XfC K a.BO
  no_BO_operation : PySem.W.findIn K (.ref a.BO) "operation" = some none
  no_BO_index : PySem.W.findIn K (.ref a.BO) "index" = some none
  g_IL : mg "Illegal" = some (.ref a.IL)
  x_IL : ExC K a.IL
  i_IL : IniF PW K a.IL a.iIL "Illegal.__init__" st_IL
  c_IL : L2.ExcC K a.IL
  f_IL : XfC K a.IL
  no_IL_operation : PySem.W.findIn K (.ref a.IL) "operation" = some none
  no_IL_index : PySem.W.findIn K (.ref a.IL) "index" = some none
  g_BS : mg "BadSize" = some (.ref a.BS)
  x_BS : ExC K a.BS
  i_BS : IniF PW K a.BS a.iBS "BadSize.__init__" st_BS
  c_BS : L2.ExcC K a.BS
  f_BS : XfC K a.BS
  no_BS_size : PySem.W.findIn K (.ref a.BS) "size" = some none
  g_BN : mg "BadNode" = some (.ref a.BN)
  x_BN : ExC K a.BN
  i_BN : IniF PW K a.BN a.iBN "BadNode.__init__" st_BN
  c_BN : L2.ExcC K a.BN
  f_BN : XfC K a.BN
  no_BN_node : PySem.W.findIn K (.ref a.BN) "node" = some none
  g_RE : mg "Refused" = some (.ref a.RE)
  g_BG : mg "BadGap" = some (.ref a.BG)
  g_LO : mg "LogError" = some (.ref a.LO)
  g_LI : mg "LinkError" = some (.ref a.LI)
  k_BN_BG : PySem.W.kitOne K (.ref a.BN) (.ref a.BG) = some false
  k_BN_BS : PySem.W.kitOne K (.ref a.BN) (.ref a.BS) = some false
  k_BN_LO : PySem.W.kitOne K (.ref a.BN) (.ref a.LO) = some false
  k_BN_LI : PySem.W.kitOne K (.ref a.BN) (.ref a.LI) = some true
  k_BN_VE : PySem.W.kitOne K (.ref a.BN) (.type "ValueError") = some true
  k_BS_LO : PySem.W.kitOne K (.ref a.BS) (.ref a.LO) = some false
  k_BS_LI : PySem.W.kitOne K (.ref a.BS) (.ref a.LI) = some true
  k_BS_VE : PySem.W.kitOne K (.ref a.BS) (.type "ValueError") = some true
  k_BO_IL : PySem.W.kitOne K (.ref a.BO) (.ref a.IL) = some false
  k_BO_RE : PySem.W.kitOne K (.ref a.BO) (.ref a.RE) = some false
  k_BO_LO : PySem.W.kitOne K (.ref a.BO) (.ref a.LO) = some true
  k_BO_LI : PySem.W.kitOne K (.ref a.BO) (.ref a.LI) = some true
  k_BO_VE : PySem.W.kitOne K (.ref a.BO) (.type "ValueError") = some true
  k_IL_BO : PySem.W.kitOne K (.ref a.IL) (.ref a.BO) = some false
  k_IL_RE : PySem.W.kitOne K (.ref a.IL) (.ref a.RE) = some false
  k_IL_LO : PySem.W.kitOne K (.ref a.IL) (.ref a.LO) = some true
  k_IL_LI : PySem.W.kitOne K (.ref a.IL) (.ref a.LI) = some true
  k_IL_VE : PySem.W.kitOne K (.ref a.IL) (.type "ValueError") = some true
  e_BN_BN : PySem.W.exmOne K (.ref a.BN) (.ref a.BN) = some true
  e_BS_BS : PySem.W.exmOne K (.ref a.BS) (.ref a.BS) = some true
  e_BO_BO : PySem.W.exmOne K (.ref a.BO) (.ref a.BO) = some true
  e_IL_BO : PySem.W.exmOne K (.ref a.IL) (.ref a.BO) = some false
  e_IL_IL : PySem.W.exmOne K (.ref a.IL) (.ref a.IL) = some true
  n_abs : mg "abs" = none
  n_len : mg "len" = none
  n_int : mg "int" = none
  n_enumerate : mg "enumerate" = none
  n_list : mg "list" = none
  n_range : mg "range" = none
  n_str : mg "str" = none
  n_isinstance : mg "isinstance" = none
  n_bool : mg "bool" = none
  n_ValueError : mg "ValueError" = none
  n_super : mg "super" = none
  v_MOST_NODES : ∃ t, mg "MOST_NODES" = some (.int 60 t)
  v_MOST_DIGITS : ∃ t, mg "MOST_DIGITS" = some (.int 9 t)
  v_PARTS : ∃ t, mg "PARTS" = some (.int 3 t)
section
variable {w : World} {K : PySem.W.Frag} {mg : Str → Option Value} {a : Ad}
theorem Txt.iniBO (T : Txt K mg a) : Ini PW w K mg a.BO a.iBO ["operation", "index"] := ini2 T.x_BO T.i_BO T.n_super rfl rfl rfl (fun _ _ _ _ _ _ _ _ _ _ => rfl) rfl rfl rfl rfl rfl (by decide +kernel) rfl rfl rfl (by decide +kernel) (by decide +kernel) T.no_BO_operation (by decide +kernel) (by decide +kernel) (by decide +kernel) T.no_BO_index (fun _ _ _ _ => rfl)
theorem Txt.iniIL (T : Txt K mg a) : Ini PW w K mg a.IL a.iIL ["operation", "index"] := ini2 T.x_IL T.i_IL T.n_super rfl rfl rfl (fun _ _ _ _ _ _ _ _ _ _ => rfl) rfl rfl rfl rfl rfl (by decide +kernel) rfl rfl rfl (by decide +kernel) (by decide +kernel) T.no_IL_operation (by decide +kernel) (by decide +kernel) (by decide +kernel) T.no_IL_index (fun _ _ _ _ => rfl)
theorem Txt.iniBS (T : Txt K mg a) : Ini PW w K mg a.BS a.iBS ["size"] := ini1 T.x_BS T.i_BS T.n_super rfl rfl rfl (fun _ _ _ _ _ _ _ _ _ => rfl) rfl rfl rfl rfl (by decide +kernel) rfl rfl rfl (by decide +kernel) (by decide +kernel) T.no_BS_size (fun _ _ _ _ => rfl)
theorem Txt.iniBN (T : Txt K mg a) : Ini PW w K mg a.BN a.iBN ["node"] := ini1 T.x_BN T.i_BN T.n_super rfl rfl rfl (fun _ _ _ _ _ _ _ _ _ => rfl) rfl rfl rfl rfl (by decide +kernel) rfl rfl rfl (by decide +kernel) (by decide +kernel) T.no_BN_node (fun _ _ _ _ => rfl)
end
/-! ### a def's promise, whatever its function object is -/
def Ok (P : Program) (w : World) (K : PySem.W.Frag) (mg : Str → Option Value) (base : Heap) (CX : CXT) (k : Nat) (f : Addr) (ps : List Str) (sp : Sp) : Prop := ∃ fd, FnOk P w K mg base CX k f fd ps sp ∧ Binds K fd ps [] ∧ PySem.W.keepIn K (.ref f) = true
theorem Ok.mono {P : Program} {w : World} {K : PySem.W.Frag} {mg : Str → Option Value} {base : Heap} {CX : CXT} {j k : Nat} {f : Addr} {ps : List Str} {sp : Sp} (D : Ok P w K mg base CX j f ps sp) (h : j ≤ k) : Ok P w K mg base CX k f ps sp :=
  let ⟨fd, F, b, kp⟩ := D
  ⟨fd, F.mono h, b, kp⟩
theorem ok_of {P : Program} {w : World} {K : PySem.W.Frag} {mg : Str → Option Value} {base : Heap} {CX : CXT} {k : Nat} {f : Addr} {x qual : Str} {st : Stmt} {ps : List Str} {sp : Sp} (D : Dn K x qual st ps f) (h : ∀ fd, Fun K x qual st f fd → FnOk P w K mg base CX k f fd ps sp) : Ok P w K mg base CX k f ps sp :=
  let ⟨fd, F, b⟩ := D
  ⟨fd, h fd F, b, F.kp⟩
section
variable {X : Cx} {CX : CXT} {k : Nat} {f C g p : Addr} {mc : Value} {ps : List Str} {sp : Sp} {E : XK} {ES : L2.St → XK} {x m : Str} {pp pos apos : Pos} {e o : Expr} {es : List Expr} {ta : TE} {t : TA}
/-- f(e, ..) -/
def tCa (sp : Sp) (E : XK) (t : TA) : TE := fun σ H Q => t σ H fun vs H1 => sp vs H1 Q E
theorem pe_ca (D : Ok X.prog X.w X.K X.mg X.base CX k f ps sp) (hr : Room k X.A) (hm : X.mg x = some (.ref f)) (hx : Passes CX X E) (ha : PA X (e :: es) t) (hg : Gl X x := by rfl) (hdb : (x == ("__debug__" : Str)) = false := by decide)
    (he : starEach (e :: es) X.env = (false, eval e X.env) :: starEach es X.env := by rfl) (hpl : (backTo pos (starEach es X.env)).any (·.1) = false := by rfl) : PE X (.Call (.Name x pp) (e :: es) [] pos) (tCa sp E t) := by
  obtain ⟨fd, F, b, kp⟩ := D
  refine ⟨fun pins s σ H Q I h => ?_⟩
  refine wpAny_Call_Name_kw (ld_glob I hg hm ?_ hdb)
  refine PySem.W.callWith_K (h₀ := X.base) I.ok.mod.kin kp (thn (ha.run pos pins s σ H _ I h) fun us s1 hh => ?_) he hpl
  obtain ⟨vs, H1, I1, r, q⟩ := hh
  exact ⟨I1.kIn, run_at rfl F hr b hx I1 r q⟩
/-- o.m(e, ..); o.m() -/
def tMe (C : Addr) (m : Str) (sp : Sp) (E : XK) (ta : TE) (t : TA) : TE := fun σ H Q => ta σ H fun x H1 => ∃ a dx fs, x = .ref a ∧ H1 a = some (.ins C dx fs) ∧ fs.lookup m = none ∧ t σ H1 fun vs H2 => sp (x :: vs) H2 Q E
theorem pe_me {pl : Sem Bool} (he : PE X o ta) (c : Cls X.K C) (hm : Meth X.K C m f) (D : Ok X.prog X.w X.K X.mg X.base CX k f ps sp) (hr : Room k X.A) (hx : Passes CX X E) (ha : PA X (e :: es) t)
    (hst : starEach (e :: es) X.env = (false, eval e X.env) :: starEach es X.env := by rfl) (hpl : (backTo pos (starEach es X.env)).any (·.1) = false := by rfl)
    (ht : eval (.Call (.Attribute o m apos) (e :: es) [] pos) X.env = (do
      let ov ← eval o X.env
      standAt apos.atName
      let (f, first) ← holding [ov] (getMethod ov m pl)
      callWith pos f first (backTo pos (starEach (e :: es) X.env)) (backToKw pos (keywordEach [] X.env))) := by rfl) :
    PE X (.Call (.Attribute o m apos) (e :: es) [] pos) (tMe C m sp E ta t) := by
  obtain ⟨fd, F, b, kp⟩ := D
  refine ⟨fun pins s σ H Q I h => ?_⟩
  refine PySem.W.methodCall_KW (pl := pl) (thn (he.run pins s σ H _ I h) fun u s1 hh => ?_) ht
  obtain ⟨y, H1, I1, rx, a, dx, fs, ex, ea, l, q⟩ := hh
  subst ex
  obtain rfl : u = Value.ref a := rx
  refine getmeth_ok I1 ea c hm l ?_
  refine PySem.W.callWith_K (first := [.ref a]) (h₀ := X.base) I.ok.mod.kin hm.kp (thn (ha.run pos pins s1 σ H1 _ I1 q) fun us s2 hh => ?_) hst hpl
  obtain ⟨vs, H2, I2, r, q2⟩ := hh
  exact ⟨I2.kIn, run_at (us := .ref a :: us) (vs := .ref a :: vs) rfl F hr b hx I2 (.cons rfl r) q2⟩
theorem pe_me0 {pl : Sem Bool} (he : PE X o ta) (c : Cls X.K C) (hm : Meth X.K C m f) (D : Ok X.prog X.w X.K X.mg X.base CX k f ps sp) (hr : Room k X.A) (hx : Passes CX X E)
    (ht : eval (.Call (.Attribute o m apos) [] [] pos) X.env = (do
      let ov ← eval o X.env
      standAt apos.atName
      let (f, first) ← holding [ov] (getMethod ov m pl)
      callWith pos f first (backTo pos (starEach [] X.env)) (backToKw pos (keywordEach [] X.env))) := by rfl) :
    PE X (.Call (.Attribute o m apos) [] [] pos) (tMe C m sp E ta tNil) := by
  obtain ⟨fd, F, b, kp⟩ := D
  refine ⟨fun pins s σ H Q I h => ?_⟩
  refine PySem.W.methodCall_KW (pl := pl) (thn (he.run pins s σ H _ I h) fun u s1 hh => ?_) ht
  obtain ⟨y, H1, I1, rx, a, dx, fs, ex, ea, l, q⟩ := hh
  subst ex
  obtain rfl : u = Value.ref a := rx
  refine getmeth_ok I1 ea c hm l ?_
  exact PySem.W.callWith_K0 (first := [.ref a]) I1.kIn hm.kp (run_at (us := [.ref a]) (vs := [.ref a]) rfl F hr b hx I1 (.cons rfl .nil) q)
/-- C.m(e, ..) of a static method -/
theorem pe_sm {pl : Sem Bool} (he : PE X o ta) (r : ClX.CRead X.K C mc) (c : SMet X.K C mc m p g) (D : Ok X.prog X.w X.K X.mg X.base CX k g ps sp) (hr : Room k X.A) (hx : Passes CX X E) (ha : PA X (e :: es) t)
    (hst : starEach (e :: es) X.env = (false, eval e X.env) :: starEach es X.env := by rfl) (hpl : (backTo pos (starEach es X.env)).any (·.1) = false := by rfl)
    (ht : eval (.Call (.Attribute o m apos) (e :: es) [] pos) X.env = (do
      let ov ← eval o X.env
      standAt apos.atName
      let (f, first) ← holding [ov] (getMethod ov m pl)
      callWith pos f first (backTo pos (starEach (e :: es) X.env)) (backToKw pos (keywordEach [] X.env))) := by rfl) :
    PE X (.Call (.Attribute o m apos) (e :: es) [] pos) (tSMeth C sp E ta t) := by
  obtain ⟨fd, F, b, kp⟩ := D
  exact pe_smeth he r c F hr b hx ha hst hpl ht
/-- C(e, ..) -/
def tMa (C : Addr) (sp : Sp) (E : XK) (t : TA) : TE := fun σ H Q => t σ H fun vs H1 => ∀ x dx, H1 x = none → H1 dx = none → dx ≠ x → sp (.ref x :: vs) (upd (upd H1 dx (.own x)) x (.ins C dx [])) (fun v H2 => v = .non ∧ Q (.ref x) H2) E
theorem pe_ma (M : Mk X.K C f) (D : Ok X.prog X.w X.K X.mg X.base CX k f ps sp) (hr : Room (k + 1) X.A) (hm : X.mg x = some (.ref C)) (hx : Passes CX X E) (ha : PA X (e :: es) t) (hg : Gl X x := by rfl)
    (hdb : (x == ("__debug__" : Str)) = false := by decide) (he : starEach (e :: es) X.env = (false, eval e X.env) :: starEach es X.env := by rfl) (hpl : (backTo pos (starEach es X.env)).any (·.1) = false := by rfl) :
    PE X (.Call (.Name x pp) (e :: es) [] pos) (tMa C sp E t) := by
  obtain ⟨fd, F, b, kp⟩ := D
  have q := pe_make (p := pp) (pos := pos) M F hr hg hm b .nil hx ha hdb he hpl
  refine ⟨fun pins s σ H Q I h => q.run pins s σ H Q I ?_⟩
  show t σ H fun vs H1 => _
  have e1 : ∀ vs : List V, vs ++ [] = vs := fun vs => List.append_nil vs
  simp only [e1]
  exact h
end
end LL
/-! ### common words -/
namespace LL
open PySem PySem.Spec PyProof.Rows L2 TL
theorem same_upd {H H1 : Hp} {p : Addr} {o : HO} (s : Same H H1) (hp : H1 p = none) : Same H (upd H1 p o) := fun b u e => by
  rw [upd_ne (ne_of_none (s b u e) hp)]
  exact s b u e
/-- a loop over enumerate(list) with two names as its target -/
theorem for_enum {K : PySem.W.Frag} {a : Addr} {xs : List V} {j1 j2 : Nat} {tb : TS} {D : Ends} {σ : L2.St} {H : Hp} (Pv : Nat → L2.St → Hp → Prop) (h0 : Pv 0 σ H) (hl : ∀ i σ H, i ≤ xs.length → Pv i σ H → SqL K H a xs)
    (hs : ∀ i x σ H T, xs[i]? = some x → Pv i σ H → H T = none → tb { D with nx := Pv (i + 1), ct := Pv (i + 1), bk := D.nx } ((σ.set j1 (some (.int (i : Nat)))).set j2 (some x)) (upd H T (.tup [.int (i : Nat), x]))) (hd : ∀ σ H, Pv xs.length σ H → D.nx σ H) :
    ∃ W : Nat → Nat → L2.St → Hp → Prop, (∃ m, W 0 m σ H) ∧ ∀ i m σ H, W i m σ H →
      ((Ite K a).stop i H ∧ D.nx σ H) ∨ ((Ite K a).go i H ∧ ∃ N : L2.St → Hp → Prop, (∀ σ' H', N σ' H' → ∃ m', m' < m ∧ W (i + 1) m' σ' H') ∧ ∀ x H', (Ite K a).yld i H x H' → gTup K 2 (gCons (gName j1) (gCons (gName j2) gNil)) x σ H' fun σ2 H2 => tb { D with nx := N, ct := N, bk := D.nx } σ2 H2) := by
  refine ⟨fun i m σ H => m = xs.length - i ∧ i ≤ xs.length ∧ Pv i σ H, ⟨xs.length, by simp, Nat.zero_le _, h0⟩, ?_⟩
  rintro i m σ H ⟨rfl, hi, p⟩
  have q := hl i σ H hi p
  by_cases hlt : i < xs.length
  · refine .inr ⟨⟨xs, xs[i], q, by simp [hlt]⟩, Pv (i + 1), fun σ' H' p' => ⟨xs.length - (i + 1), by omega, rfl, hlt, p'⟩, fun v H' y => ?_⟩
    obtain ⟨T, x, e1, hT, e2, hx⟩ := y
    subst e1 e2
    exact ⟨T, _, rfl, SqT.of upd_same, rfl, _, _, rfl, _, _, rfl, rfl, hs i x σ H T (hx xs q) p hT⟩
  · have e : i = xs.length := by omega
    subst e
    exact .inl ⟨⟨xs, q, Nat.le_refl _⟩, hd σ H p⟩
theorem joinL_len : ∀ ws : List (List Nat), (joinL [32] ws).length ≤ (ws.map (·.length)).sum + ws.length
  | [] => by simp [joinL]
  | [w] => by simp [joinL]
  | w :: v :: ws => by
    have ih := joinL_len (v :: ws)
    show (w ++ ([32] ++ joinL [32] (v :: ws))).length ≤ _
    simp only [List.length_append, List.map_cons, List.sum_cons, List.length_cons] at ih ⊢
    simp only [List.length_nil]
    omega
theorem sum_le {c : Nat} : ∀ ns : List Nat, (∀ x ∈ ns, x ≤ c) → ns.sum ≤ c * ns.length
  | [], _ => by simp
  | x :: ns, h => by
    have ih := sum_le ns fun y hy => h y (List.mem_cons_of_mem _ hy)
    have hx := h x List.mem_cons_self
    rw [List.sum_cons, List.length_cons, Nat.mul_succ]
    omega
theorem ptx_len {l : List Int} (h : Small l) : (ptx l).length ≤ 3 * l.length := by
  rw [len_tl, tl_ptx]
  have h1 := joinL_len (l.map fun x => tl (num x))
  have h2 : ((l.map fun x => tl (num x)).map (·.length)).sum ≤ 2 * ((l.map fun x => tl (num x)).map (·.length)).length := sum_le _ fun x hx => by
    obtain ⟨w, hw, rfl⟩ := List.mem_map.mp hx
    obtain ⟨y, hy, rfl⟩ := List.mem_map.mp hw
    have := (num_len (h y hy).1 (h y hy).2).2
    rw [len_tl] at this
    exact this
  simp only [List.length_map] at h1 h2
  omega
theorem num_lens {l : List Int} (h : Small l) : ((l.map num).map (·.length)).sum ≤ 2 * l.length := by
  have h2 := sum_le (c := 2) ((l.map num).map (·.length)) fun x hx => by
    obtain ⟨w, hw, rfl⟩ := List.mem_map.mp hx
    obtain ⟨y, hy, rfl⟩ := List.mem_map.mp hw
    exact (num_len (h y hy).1 (h y hy).2).2
  simp only [List.length_map] at h2
  exact h2
end LL
namespace LL
open PySem PySem.Spec PyProof.Rows L2
section
variable {w : World} {K : PySem.W.Frag} {mg : Str → Option Value} {base : Heap} {a : Ad}
theorem q_true {Q : VK} {H : Hp} {c : Prop} [Decidable c] (hc : c) (k : Q (.bl true) H) : Q (.bl (decide c)) H := by
  rw [decide_eq_true hc]
  exact k
theorem q_false {Q : VK} {H : Hp} {c : Prop} [Decidable c] (hc : ¬ c) (k : Q (.bl false) H) : Q (.bl (decide c)) H := by
  rw [decide_eq_false hc]
  exact k
theorem split_ptx' {l : List Int} (hl : l ≠ []) (h : Small l) : Txt.split (ptx l) (" " : Str) = l.map num := split_ptx hl h
/-! ### check_size -/
def spCS (BS : Addr) : Sp := fun vs H Q E => ∃ z : Int, vs = [.int z] ∧ ((0 ≤ z ∧ z ≤ 60) → Q .non H) ∧ (¬(0 ≤ z ∧ z ≤ 60) → ∀ d, H d = none → E (.ref BS) (some d) (upd H d (.xd [(("size" : Str), .int z)])))
theorem sc_cs : FnScope ["size"] ["size"] (defScope st_cs) := ⟨rfl, rfl, rfl, by decide +kernel, rfl, by decide +kernel, by decide +kernel⟩
theorem ok_cs (T : Txt K mg a) : Ok PW w K mg base (L2.CX PW w) 1 a.cs ["size"] (spCS a.BS) := by
  refine ok_of T.d_cs fun fd F => F.okX sc_cs (fun vs H Q E h => ?_) (fun cdv A outer s H vs Q E hr h => ?_)
  · obtain ⟨z, rfl, _⟩ := h
    rfl
  · obtain ⟨z, rfl, k1, k2⟩ := h
    obtain ⟨t60, g60⟩ := T.v_MOST_NODES
    refine ⟨_, pss_one (ps_if (pt_not (pt_chain op_le op_le pe_int (pv 0) (pe_glob (v := .int 60) rfl g60 ⟨_, rfl⟩)))
      (pss_one (ps_raise rfl (takes_of rfl rfl rfl rfl) (pmk_x T.x_BS T.i_BS T.iniBS hr T.g_BS (pa_cons (pv 0) pa_nil)))) pss_nil), ?_⟩
    refine ⟨_, rfl, _, _, rfl, rfl, _, rfl, ?_⟩
    by_cases h0 : 0 ≤ z
    · rw [decide_eq_true h0]
      refine iteT ⟨_, _, rfl, rfl, _, rfl, ?_⟩
      by_cases h1 : z ≤ 60
      · rw [decide_eq_true h1]
        exact iteF (k1 ⟨h0, h1⟩)
      · rw [decide_eq_false h1]
        exact iteT ⟨_, rfl, rfl, (by show 1 ≤ sizeLine; decide), fun d hd => k2 (fun q => h1 q.2) d hd⟩
    · rw [decide_eq_false h0]
      refine iteF ⟨_, rfl, ?_⟩
      exact iteT ⟨_, rfl, rfl, (by show 1 ≤ sizeLine; decide), fun d hd => k2 (fun q => h0 q.1) d hd⟩
/-! ### check_operation -/
def ab (i : Int) : Int := if i < 0 then -i else i
def BadOp (n op : Int) : Prop := op = 0 ∨ n < ab op
def spCO (BO : Addr) : Sp := fun vs H Q E => ∃ n op ix : Int, vs = [.int n, .int op, .int ix] ∧ (¬ BadOp n op → Q .non H) ∧ (BadOp n op → ∀ d, H d = none → E (.ref BO) (some d) (upd H d (.xd [(("index" : Str), .int ix), (("operation" : Str), .int op)])))
theorem sc_co : FnScope ["size", "operation", "index"] ["size", "operation", "index"] (defScope st_co) := ⟨rfl, rfl, rfl, by decide +kernel, rfl, by decide +kernel, by decide +kernel⟩
theorem ok_co (T : Txt K mg a) : Ok PW w K mg base (L2.CX PW w) 1 a.co ["size", "operation", "index"] (spCO a.BO) := by
  refine ok_of T.d_co fun fd F => F.okX sc_co (fun vs H Q E h => ?_) (fun cdv A outer s H vs Q E hr h => ?_)
  · obtain ⟨n, op, ix, rfl, _⟩ := h
    rfl
  · obtain ⟨n, op, ix, rfl, k1, k2⟩ := h
    refine ⟨_, pss_one (ps_if (PW.pt (pw_or (pt_cmpR op_eq (pv 1) pe_int (nomark _)) (pw_or1 (pt_cmpR op_gt (pe_callB call_abs (by rfl) T.n_abs (by decide +kernel) (pa_cons (pv 1) pa_nil)) (pv 0) (nomark _)))))
      (pss_one (ps_raise rfl (takes_of rfl rfl rfl rfl) (pmk_x T.x_BO T.i_BO T.iniBO hr T.g_BO (pa_cons (pv 1) (pa_cons (pv 2) pa_nil))))) pss_nil), ?_⟩
    refine ⟨_, rfl, rfl, _, rfl, ?_⟩
    refine ite2 (fun h0 => ?_) (fun h0 => ?_)
    · have e : op = 0 := by simpa using h0
      exact iteT ⟨_, rfl, _, rfl, rfl, (by show 2 ≤ sizeLine; decide), fun d hd => k2 (.inl e) d hd⟩
    · have e : op ≠ 0 := by simpa using h0
      refine ⟨_, rfl, _, rfl, _, rfl, _, _, rfl, rfl, _, rfl, ?_⟩
      refine ite2 (fun h1 => ?_) (fun h1 => ?_)
      · have e1 : n < ab op := by simpa [ab] using h1
        exact ⟨_, rfl, _, rfl, rfl, (by show 2 ≤ sizeLine; decide), fun d hd => k2 (.inr e1) d hd⟩
      · have e1 : ¬ n < ab op := by simpa [ab] using h1
        exact k1 fun q => q.elim e e1
/-! ### is_number -/
def spInu : Sp := fun vs H Q _ => ∃ i : Int, vs = [.str (num i)] ∧ 0 ≤ i ∧ i < 100 ∧ Q (.bl true) H
theorem sc_inu : FnScope ["word"] ["word"] (defScope st_inu) := ⟨rfl, rfl, rfl, by decide +kernel, rfl, by decide +kernel, by decide +kernel⟩
theorem ok_inu (T : Txt K mg a) : Ok PW w K mg base CX0 1 a.inu ["word"] spInu := by
  refine ok_of T.d_inu fun fd F => F.ok sc_inu (fun vs H Q E h => ?_) (fun cdv A outer s H vs Q E hr h => ?_)
  · obtain ⟨i, rfl, _⟩ := h
    rfl
  · obtain ⟨i, rfl, h0, h1, k⟩ := h
    obtain ⟨t9, g9⟩ := T.v_MOST_DIGITS
    obtain ⟨c, hc, hz⟩ := num_head h0 h1
    have hl := num_len h0 h1
    refine ⟨_, pss_cons (ps_if (pt_not (PW.pt (pw_and (pt_val (pe_m0 PySem.F.slot_str_isascii PySem.F.type_str_isascii mt_isascii (pv 0))) (pw_and1 (pt_val (pe_m0 PySem.F.slot_str_isdigit PySem.F.type_str_isdigit mt_isdigit (pv 0)))))))
        (pss_one (ps_ret pe_bl)) pss_nil)
      (pss_one (ps_ret (pe_or (pe_cmpR op_eq (pv 0) pe_str (nomark _)) (pe_one (pe_and (pe_cmpR op_ne (pe_item_str (pv 0) pe_int (fun _ _ => rfl)) pe_str (nomark _))
        (pe_one (pe_cmpR op_le (pe_callB call_len_str (by rfl) T.n_len PySem.boot_len (pa_cons (pv 0) pa_nil)) (pe_glob (v := .int 9) rfl g9 ⟨_, rfl⟩) (nomark _)))))))), ?_⟩
    refine ⟨_, rfl, ⟨_, rfl⟩, _, rfl, rfl, trivial, _, rfl, ?_⟩
    rw [num_ascii h0 h1]
    refine iteT ⟨_, rfl, ⟨_, rfl⟩, _, rfl, rfl, trivial, _, rfl, ?_⟩
    rw [num_digit h0 h1]
    refine iteF ?_
    refine ⟨_, rfl, rfl, _, rfl, ?_⟩
    refine ite2 (fun _ => k) (fun hn => ?_)
    refine ⟨_, rfl, _, _, c, rfl, rfl, by decide, by decide, (by show (0 : Int) < _; omega), hc, ?_⟩
    refine ⟨rfl, _, rfl, ?_⟩
    refine ite2 (fun _ => ?_) (fun he => ?_)
    · refine ⟨_, rfl, _, rfl, (by show _ ≤ 16777216; omega), ?_⟩
      refine ⟨_, _, rfl, rfl, ?_⟩
      exact q_true (by omega) k
    · exfalso
      have e1 : V.str ⟨#[c]⟩ = V.str ("0" : Str) := by simpa using he
      have e2 : (⟨#[c]⟩ : Str).cps = ("0" : Str).cps := by
        injection e1 with z
        rw [z]
      have e3 : ("0" : Str).cps = #[48] := by decide +kernel
      rw [e3] at e2
      have e4 : c = 48 := by simpa using e2
      refine hn ?_
      rw [hz e4]
      exact decide_eq_true rfl
theorem map_map_get {l : List Int} {i : Nat} {x : V} (h : ((l.map num).map V.str)[i]? = some x) : ∃ z, l[i]? = some z ∧ V.str (num z) = x := by
  rw [List.map_map, List.getElem?_map] at h
  cases e : l[i]? with
  | none => rw [e] at h; cases h
  | some z => rw [e] at h; exact ⟨z, rfl, Option.some.inj h⟩
theorem map_get {α : Type} {f : α → V} {l : List α} {i : Nat} {x : V} (h : (l.map f)[i]? = some x) : ∃ z, l[i]? = some z ∧ f z = x := by
  rw [List.getElem?_map] at h
  cases e : l[i]? with
  | none => rw [e] at h; cases h
  | some z => rw [e] at h; exact ⟨z, rfl, Option.some.inj h⟩
theorem take_next {α : Type} {l : List α} {i : Nat} {x : α} (h : l[i]? = some x) : l.take (i + 1) = l.take i ++ [x] := by
  rw [List.take_succ, h]
  rfl
/-! ### _numbers -/
def spNums : Sp := fun vs H Q _ => ∃ l : List Int, vs = [.str (ptx l)] ∧ l ≠ [] ∧ Small l ∧ l.length ≤ 1000 ∧ ∀ H' p, Same H H' → H p = none → H' p = some (.lst (l.map V.int)) → Q (.ref p) H'
theorem sc_nums : FnScope ["part", "words", "word"] ["part"] (defScope st_nums) := ⟨rfl, rfl, rfl, by decide +kernel, rfl, by decide +kernel, by decide +kernel⟩
theorem ok_nums (T : Txt K mg a) : Ok PW w K mg base CX0 2 a.nums ["part"] spNums := by
  refine ok_of T.d_nums fun fd F => F.ok sc_nums (fun vs H Q E h => ?_) (fun cdv A outer s H vs Q E hr h => ?_)
  · obtain ⟨l, rfl, _⟩ := h
    rfl
  · obtain ⟨l, rfl, hl, hs, hz, k⟩ := h
    refine ⟨_, pss_cons (ps_set (i := 1) sc_nums.nd rfl (.inl rfl) (pe_split (pv 0) pe_str))
      (pss_cons (ps_for PassesOwn.never rfl (pi_list (pv 1)) (pg_name (i := 2) sc_nums.nd rfl (Or.inl rfl))
        (pss_one (ps_if (pt_not (pt_val (pe_ca (ok_inu T) hr T.g_inu pass0 (pa_cons (pv 2) pa_nil)))) (pss_one (ps_ret pe_non)) pss_nil)))
      (pss_one (ps_ret (pe_lc (own := [("word", 2)]) (g := gName 2) (tt := tYes) rfl sc_nums.nd (pi_list (pv 1)) (blkOk_by (N := ["part", "words", "word"]) (sc := defScope st_nums) (by decide +kernel))
        (fun _ _ _ _ _ => pg_name (i := 2) sc_nums.nd rfl (Or.inl rfl)) (fun _ _ _ _ _ => pts_nil) (fun _ _ _ _ _ => pe_callTy call_int_str (by rfl) T.n_int (by decide +kernel) (pa_cons (pv 2) pa_nil)))))), ?_⟩
    refine ⟨_, rfl, ⟨_, rfl⟩, _, _, rfl, rfl, (by decide +kernel), ?_, fun p hp => ?_⟩
    · have := ptx_len hs
      show _ ≤ 16777216
      omega
    rw [split_ptx' hl hs]
    refine ⟨_, rfl, p, rfl, ⟨_, .inl (.inl upd_same)⟩, ?_⟩
    refine for_list (xs := (l.map num).map V.str) (fun _ σ H1 => (∃ y, σ = [some (.str (ptx l)), some (.ref p), y]) ∧ H1 = upd H p (.lst ((l.map num).map V.str))) ⟨⟨_, rfl⟩, rfl⟩ ?_ ?_ ?_
    · rintro i σ H1 _ ⟨_, rfl⟩
      exact .inl (.inl upd_same)
    · rintro i x σ H1 hx ⟨⟨y, rfl⟩, rfl⟩
      obtain ⟨z, hz1, rfl⟩ := map_map_get hx
      refine ⟨_, rfl, _, rfl, (hs z (List.mem_of_getElem? hz1)).1, (hs z (List.mem_of_getElem? hz1)).2, _, rfl, ?_⟩
      exact iteF ⟨⟨_, rfl⟩, rfl⟩
    · rintro σ H1 ⟨⟨y, rfl⟩, rfl⟩
      refine ⟨_, rfl, p, rfl, ⟨_, .inl (.inl upd_same)⟩, fun D hD => ?_⟩
      have hpD : p ≠ D := by
        rintro rfl
        rw [upd_same] at hD
        cases hD
      refine lc_list (xs := (l.map num).map V.str) (fun i H1 => H1 = upd (upd H p (.lst ((l.map num).map V.str))) D (.lst ((l.take i).map V.int))) (by simp) ?_ ?_ ?_
      · rintro i H1 _ rfl
        refine .inl (.inl ?_)
        rw [upd_ne hpD]
        exact upd_same
      · rintro i x H1 hx rfl
        obtain ⟨z, hz1, rfl⟩ := map_map_get hx
        have hb := hs z (List.mem_of_getElem? hz1)
        refine ⟨rfl, _, rfl, _, z, rfl, num_int hb.1 hb.2, (by have := num_len hb.1 hb.2; omega), _, upd_same, ?_, ?_⟩
        · rw [List.length_map, List.length_take]
          exact small1000 (by omega)
        · rw [upd_upd, take_next hz1]
          simp
      · rintro H1 rfl
        refine k _ _ (same_upd (same_upd (Same.refl _) hp) hD) (by rw [upd_ne (Ne.symm hpD)] at hD; exact hD) ?_
        rw [upd_same]
        simp
/-! ### _read_rights, _read_lefts -/
def spRR : Sp := fun vs H Q _ => ∃ r : List Int, vs = [.str (ptx r)] ∧ r ≠ [] ∧ Small r ∧ r.length ≤ 61 ∧ (∀ (v : Nat) (x : Int), r[v]? = some x → (v : Int) < x ∧ x ≤ r.length) ∧ ∀ H' p, Same H H' → H p = none → H' p = some (.lst (r.map V.int)) → Q (.ref p) H'
theorem sc_rr : FnScope ["part", "rights", "node", "link"] ["part"] (defScope st_rr) := ⟨rfl, rfl, rfl, by decide +kernel, rfl, by decide +kernel, by decide +kernel⟩
theorem ok_rr (T : Txt K mg a) : Ok PW w K mg base CX0 3 a.rr ["part"] spRR := by
  refine ok_of T.d_rr fun fd F => F.ok sc_rr (fun vs H Q E h => ?_) (fun cdv A outer s H vs Q E hr h => ?_)
  · obtain ⟨l, rfl, _⟩ := h
    rfl
  · obtain ⟨r, rfl, hl, hs, hz, hv, k⟩ := h
    obtain ⟨tm, mo⟩ := T.most
    refine ⟨_, pss_cons (ps_set (i := 1) sc_rr.nd rfl (.inl rfl) (pe_ca (ok_nums T) hr T.g_nums pass0 (pa_cons (pv 0) pa_nil)))
      (pss_cons (ps_if (PW.pt (pw_or (pt_cmpR op_isN (pv 1) pe_non (nomark _)) (pw_or1 (pt_cmpR op_gt (pe_callB call_len_seq (by rfl) T.n_len PySem.boot_len (pa_cons (pv 1) pa_nil))
          (pe_op op_add (ClX.pe_cval (pe_glob (v := .ref a.L) rfl T.g_L rfl)) pe_int) (nomark _))))) (pss_one (ps_ret pe_non)) pss_nil)
      (pss_cons (ps_for PassesOwn.never rfl (pi_enum (by rfl) T.n_enumerate (pa_cons (pv 1) pa_nil)) (pg_tup rfl (pgs_cons (pg_name (i := 2) sc_rr.nd rfl (.inl rfl)) (pgs_cons (pg_name (i := 3) sc_rr.nd rfl (.inl rfl)) pgs_nil)))
        (pss_one (ps_if (pt_not (pt_chain op_lt op_le (pv 2) (pv 3) (pe_callB call_len_seq (by rfl) T.n_len PySem.boot_len (pa_cons (pv 1) pa_nil)))) (pss_one (ps_ret pe_non)) pss_nil)))
      (pss_one (ps_ret (pv 1))))), ?_⟩
    refine ⟨_, rfl, r, rfl, hl, hs, by omega, fun H' p sm np hp => ?_⟩
    refine ⟨_, rfl, rfl, _, rfl, ?_⟩
    refine iteF ?_
    refine ⟨_, rfl, p, _, rfl, .inl (.inl (.inl hp)), a.L, a.mc, _, _, rfl, T.crL, mo, _, _, rfl, rfl, _, _, rfl, rfl, _, rfl, ?_⟩
    rw [decide_eq_false (by rw [List.length_map]; omega)]
    refine iteF ?_
    refine ⟨_, rfl, p, _, rfl, .inl (.inl hp), ?_⟩
    refine for_enum (xs := r.map V.int) (fun _ σ H1 => (∃ y z, σ = [some (.str (ptx r)), some (.ref p), y, z]) ∧ Same H' H1) ⟨⟨_, _, rfl⟩, Same.refl _⟩ ?_ ?_ ?_
    · rintro i σ H1 _ ⟨_, sm1⟩
      exact .inl (.inl (sm1 _ _ hp))
    · rintro i x σ H1 t hx ⟨⟨y, z, rfl⟩, sm1⟩ nt
      obtain ⟨z, hz1, rfl⟩ := map_get hx
      have hb := hv i z hz1
      have sm2 := same_upd (o := .tup [.int (i : Nat), .int z]) sm1 nt
      refine ⟨_, rfl, _, rfl, _, _, rfl, rfl, _, rfl, ?_⟩
      rw [decide_eq_true hb.1]
      refine iteT ⟨_, rfl, p, _, rfl, .inl (.inl (.inl (sm2 _ _ hp))), _, _, rfl, rfl, _, rfl, ?_⟩
      rw [decide_eq_true (by rw [List.length_map]; exact hb.2)]
      exact iteF ⟨⟨_, _, rfl⟩, sm2⟩
    · rintro σ H1 ⟨⟨y, z, rfl⟩, sm1⟩
      exact ⟨_, rfl, k _ _ (sm.trans sm1) np (sm1 _ _ hp)⟩
def spRL : Sp := fun vs H Q _ => ∃ (l : List Int) (n : Nat), vs = [.str (ptx l), .int n] ∧ l ≠ [] ∧ Small l ∧ l.length = n + 1 ∧ n ≤ 60 ∧ (∀ (v : Nat) (x : Int), l[v]? = some x → x ≤ v) ∧ ∀ H' p, Same H H' → H p = none → H' p = some (.lst (l.map V.int)) → Q (.ref p) H'
theorem sc_rl : FnScope ["part", "size", "lefts", "index", "link"] ["part", "size"] (defScope st_rl) := ⟨rfl, rfl, rfl, by decide +kernel, rfl, by decide +kernel, by decide +kernel⟩
theorem ok_rl (T : Txt K mg a) : Ok PW w K mg base CX0 3 a.rl ["part", "size"] spRL := by
  refine ok_of T.d_rl fun fd F => F.ok sc_rl (fun vs H Q E h => ?_) (fun cdv A outer s H vs Q E hr h => ?_)
  · obtain ⟨l, n, rfl, _⟩ := h
    rfl
  · obtain ⟨l, n, rfl, hl, hs, hz, hn, hv, k⟩ := h
    refine ⟨_, pss_cons (ps_set (i := 2) sc_rl.nd rfl (.inl rfl) (pe_ca (ok_nums T) hr T.g_nums pass0 (pa_cons (pv 0) pa_nil)))
      (pss_cons (ps_if (PW.pt (pw_or (pt_cmpR op_isN (pv 2) pe_non (nomark _)) (pw_or1 (pt_cmpR op_ne (pe_callB call_len_seq (by rfl) T.n_len PySem.boot_len (pa_cons (pv 2) pa_nil))
          (pe_op op_add (pv 1) pe_int) (nomark _))))) (pss_one (ps_ret pe_non)) pss_nil)
      (pss_cons (ps_for PassesOwn.never rfl (pi_enum (by rfl) T.n_enumerate (pa_cons (pv 2) pa_nil)) (pg_tup rfl (pgs_cons (pg_name (i := 3) sc_rl.nd rfl (.inl rfl)) (pgs_cons (pg_name (i := 4) sc_rl.nd rfl (.inl rfl)) pgs_nil)))
        (pss_one (ps_if (pt_cmpR op_gt (pv 4) (pv 3) (nomark _)) (pss_one (ps_ret pe_non)) pss_nil)))
      (pss_one (ps_ret (pv 2))))), ?_⟩
    refine ⟨_, rfl, l, rfl, hl, hs, by omega, fun H' p sm np hp => ?_⟩
    refine ⟨_, rfl, rfl, _, rfl, ?_⟩
    refine iteF ?_
    refine ⟨_, rfl, p, _, rfl, .inl (.inl (.inl hp)), _, rfl, _, _, rfl, rfl, rfl, _, rfl, ?_⟩
    rw [decide_eq_true (by rw [List.length_map, hz]; simp)]
    refine iteF ?_
    refine ⟨_, rfl, p, _, rfl, .inl (.inl hp), ?_⟩
    refine for_enum (xs := l.map V.int) (fun _ σ H1 => (∃ y z, σ = [some (.str (ptx l)), some (.int n), some (.ref p), y, z]) ∧ Same H' H1) ⟨⟨_, _, rfl⟩, Same.refl _⟩ ?_ ?_ ?_
    · rintro i σ H1 _ ⟨_, sm1⟩
      exact .inl (.inl (sm1 _ _ hp))
    · rintro i x σ H1 t hx ⟨⟨y, z, rfl⟩, sm1⟩ nt
      obtain ⟨z, hz1, rfl⟩ := map_get hx
      have hb := hv i z hz1
      have sm2 := same_upd (o := .tup [.int (i : Nat), .int z]) sm1 nt
      refine ⟨_, rfl, _, rfl, _, _, rfl, rfl, _, rfl, ?_⟩
      rw [decide_eq_false (by omega)]
      exact iteF ⟨⟨_, _, rfl⟩, sm2⟩
    · rintro σ H1 ⟨⟨y, z, rfl⟩, sm1⟩
      exact ⟨_, rfl, k _ _ (sm.trans sm1) np (sm1 _ _ hp)⟩
end
end LL
namespace LL
open PySem PySem.Spec PyProof.Rows L2
section
variable {w : World} {K : PySem.W.Frag} {mg : Str → Option Value} {base : Heap} {a : Ad}
/-! ### plain words for the objects -/
theorem putF_le (f : Str) (v : V) : ∀ fs : List (Str × V), (putF f v fs).length ≤ fs.length + 1
  | [] => Nat.le_refl _
  | (g, x) :: r => by
    unfold putF
    by_cases h : g = f
    · rw [if_pos h]
      simp
    · rw [if_neg h]
      have := putF_le f v r
      simp only [List.length_cons]
      omega
theorem pf1 {f : Str} {v : V} : (putF f v []).length < 1000 := Nat.lt_of_le_of_lt (putF_le f v []) (by decide)
theorem pf2 {f g : Str} {v u : V} : (putF f v (putF g u [])).length < 1000 := Nat.lt_of_le_of_lt (putF_le _ _ _) (by have := putF_le g u []; simp only [List.length_nil] at this; omega)
theorem pf3 {f g h : Str} {v u y : V} : (putF h y (putF f v (putF g u []))).length < 1000 := Nat.lt_of_le_of_lt (putF_le _ _ _) (by have := putF_le g u []; have := putF_le f v (putF g u []); simp only [List.length_nil] at *; omega)
theorem upd_none {H : Hp} {a q : Addr} {o : HO} (h : upd H a o q = none) : q ≠ a ∧ H q = none := by
  have hne : q ≠ a := by
    rintro rfl
    rw [upd_same] at h
    cases h
  exact ⟨hne, by rw [upd_ne hne] at h; exact h⟩
def wr (n : Nat) : List Int := (List.range (n + 1)).map fun k : Nat => (k : Int) + 1
def wl (n : Nat) : List Int := (List.range (n + 2)).map fun k : Nat => (k : Int) - 1
def wf (n : Nat) : List Bool := List.replicate (n + 2) false
theorem wl_rg (n : Nat) : rgV (-1) ((n : Int) + 1) = (wl n).map V.int := by
  unfold rgV wl
  rw [show ((n : Int) + 1 - -1).toNat = n + 2 from by omega, List.map_map]
  refine List.map_congr_left fun k _ => ?_
  show V.int (-1 + (k : Int)) = V.int ((k : Int) - 1)
  rw [show -1 + (k : Int) = (k : Int) - 1 from by omega]
theorem wr_rg (n : Nat) : rgV 1 ((n : Int) + 3) = (wr n ++ [(n : Int) + 2]).map V.int := by
  unfold rgV wr
  rw [show ((n : Int) + 3 - 1).toNat = (n + 1) + 1 from by omega, List.range_succ, List.map_append, List.map_append, List.map_map]
  congr 1
  · refine List.map_congr_left fun k _ => ?_
    show V.int (1 + (k : Int)) = V.int ((k : Int) + 1)
    rw [show 1 + (k : Int) = (k : Int) + 1 from by omega]
  · show [V.int (1 + ((n + 1 : Nat) : Int))] = [V.int ((n : Int) + 2)]
    rw [show 1 + ((n + 1 : Nat) : Int) = (n : Int) + 2 from by omega]
theorem wf_rep (n : Nat) : (List.replicate ((n : Int) + 2).toNat [V.bl false]).flatten = (wf n).map V.bl := by
  unfold wf
  rw [show ((n : Int) + 2).toNat = n + 2 from by omega, List.map_replicate]
  generalize n + 2 = m
  induction m with
  | zero => rfl
  | succ m ih => rw [List.replicate_succ, List.flatten_cons, ih, List.replicate_succ]; rfl
theorem whole_wld {n : Nat} (hn : n ≤ 60) : Wld n (wr n) (wl n) (wf n) where
  hn := hn
  lr := by simp [wr]
  ll := by simp [wl]
  lf := by simp [wf]
  r1 := fun v x h => by
    unfold wr at h
    rw [List.getElem?_map] at h
    by_cases hv : v < n + 1
    · rw [List.getElem?_range hv] at h
      have e : (v : Int) + 1 = x := Option.some.inj h
      omega
    · rw [List.getElem?_eq_none (by rw [List.length_range]; omega)] at h
      cases h
  l0 := by
    unfold wl
    rw [List.getElem?_map, List.getElem?_range (by omega)]
    rfl
  l1 := fun v x h => by
    unfold wl at h
    rw [List.getElem?_map] at h
    by_cases hv : v + 1 < n + 2
    · rw [List.getElem?_range hv] at h
      have e : ((v + 1 : Nat) : Int) - 1 = x := Option.some.inj h
      omega
    · rw [List.getElem?_eq_none (by rw [List.length_range]; omega)] at h
      cases h
  f0 := by simp [wf]
  f1 := by simp [wf]
def flds (n : Nat) (a b c : Addr) : List (Str × V) := [("size", .int n), ("_lefts", .ref a), ("_rights", .ref b), ("_flags", .ref c)]
structure LkAt (C : Addr) (H : Hp) (p a b c : Addr) (n : Nat) (r l : List Int) (f : List Bool) : Prop where
  ob : ∃ dx, H p = some (.ins C dx (flds n a b c))
  la : H a = some (.lst (l.map V.int))
  rb : H b = some (.lst ((r ++ [(n : Int) + 2]).map V.int))
  fc : H c = some (.lst (f.map V.bl))
  ab : a ≠ b
  ac : a ≠ c
  bc : b ≠ c
theorem LkAt.same {C : Addr} {H H' : Hp} {p a b c : Addr} {n : Nat} {r l : List Int} {f : List Bool} (k : LkAt C H p a b c n r l f) (s : Same H H') : LkAt C H' p a b c n r l f :=
  ⟨let ⟨dx, e⟩ := k.ob; ⟨dx, s _ _ e⟩, s _ _ k.la, s _ _ k.rb, s _ _ k.fc, k.ab, k.ac, k.bc⟩
/-- a new Links of this standing -/
def NewLk (C : Addr) (H : Hp) (n : Nat) (r l : List Int) (f : List Bool) (Q : VK) : Prop := ∀ H' p a b c, Same H H' → H p = none → H a = none → H b = none → H c = none → LkAt C H' p a b c n r l f → Q (.ref p) H'
def spIni (C BS : Addr) : Sp := fun vs H Q E => ∃ (x dx : Addr) (z : Int), vs = [.ref x, .int z] ∧ H x = some (.ins C dx []) ∧
  (∀ n : Nat, z = n → n ≤ 60 → ∀ H' a b c, (∀ q o, q ≠ x → H q = some o → H' q = some o) → H a = none → H b = none → H c = none → LkAt C H' x a b c n (wr n) (wl n) (wf n) → Q .non H') ∧
  (¬(0 ≤ z ∧ z ≤ 60) → ∀ d, H d = none → E (.ref BS) (some d) (upd H d (.xd [(("size" : Str), .int z)])))
theorem sc_ini : FnScope ["self", "size"] ["self", "size"] (defScope st_ini) := ⟨rfl, rfl, rfl, by decide +kernel, rfl, by decide +kernel, by decide +kernel⟩
theorem ok_ini (T : Txt K mg a) : Ok PW w K mg base (L2.CX PW w) 2 a.ini ["self", "size"] (spIni a.L a.BS) := by
  refine ok_of T.d_ini fun fd F => F.okX sc_ini (fun vs H Q E h => ?_) (fun cdv A outer s H vs Q E hr h => ?_)
  · obtain ⟨x, dx, z, rfl, _⟩ := h
    rfl
  · obtain ⟨x, dx, z, rfl, hx, k1, k2⟩ := h
    refine ⟨_, pss_cons (ps_expr (pe_ca (ok_cs T) hr T.g_cs (passes_call (takes_of rfl rfl rfl rfl) (fun _ _ _ _ h => h)) (pa_cons (pv 1) pa_nil)))
      (pss_cons (ps_fld (pv 0) (pv 1) rfl)
      (pss_cons (ps_fld (pv 0) (pe_listRg rfl (by rfl) T.n_list (prg_2 (by rfl) T.n_range (pe_un un_neg pe_int) (pe_op op_add (pv 1) pe_int))) rfl)
      (pss_cons (ps_fld (pv 0) (pe_listRg rfl (by rfl) T.n_list (prg_2 (by rfl) T.n_range pe_int (pe_op op_add (pv 1) pe_int))) rfl)
      (pss_one (ps_fld (pv 0) (pe_op op_rep (pe_lst (pa_cons pe_bl pa_nil)) (pe_op op_add (pv 1) pe_int)) rfl))))), ?_⟩
    refine ⟨_, rfl, z, rfl, fun hz => ?_, k2⟩
    obtain ⟨n, rfl⟩ : ∃ n : Nat, z = n := ⟨z.toNat, by omega⟩
    have hn : n ≤ 60 := by omega
    refine ⟨_, rfl, _, rfl, x, a.L, dx, [], rfl, hx, T.clL, T.nL_size, by decide, ?_⟩
    refine ⟨_, rfl, _, rfl, _, _, rfl, rfl, _, _, rfl, rfl, (by show RgOk (-1) _; exact ⟨by omega, by omega, by omega, by omega, by omega⟩), fun p1 h1 => ?_⟩
    obtain ⟨x1, h1⟩ := upd_none h1
    refine ⟨_, rfl, x, a.L, dx, _, rfl, (by rw [upd_ne (Ne.symm x1)]; exact upd_same), T.clL, T.nL_lefts, pf1, ?_⟩
    refine ⟨_, rfl, _, _, rfl, rfl, _, _, rfl, rfl, (by show RgOk 1 _; exact ⟨by omega, by omega, by omega, by omega, by omega⟩), fun p2 h2 => ?_⟩
    obtain ⟨x2, h2⟩ := upd_none h2
    obtain ⟨e12, h2⟩ := upd_none h2
    obtain ⟨_, h2⟩ := upd_none h2
    refine ⟨_, rfl, x, a.L, dx, _, rfl, (by rw [upd_ne (Ne.symm x2)]; exact upd_same), T.clL, T.nL_rights, pf2, ?_⟩
    refine ⟨(by show 1 ≤ sizeLine; decide), fun t ht => ?_⟩
    refine ⟨_, rfl, _, _, rfl, rfl, _, _, _, rfl, rfl, upd_same, by omega, by omega, (by show 1 * _ ≤ 16777216; omega), fun p3 h3 => ?_⟩
    obtain ⟨xt, ht⟩ := upd_none ht
    obtain ⟨t2, ht⟩ := upd_none ht
    obtain ⟨_, ht⟩ := upd_none ht
    obtain ⟨t1, ht⟩ := upd_none ht
    obtain ⟨_, ht⟩ := upd_none ht
    obtain ⟨e3t, h3⟩ := upd_none h3
    obtain ⟨x3, h3⟩ := upd_none h3
    obtain ⟨e23, h3⟩ := upd_none h3
    obtain ⟨_, h3⟩ := upd_none h3
    obtain ⟨e13, h3⟩ := upd_none h3
    obtain ⟨_, h3⟩ := upd_none h3
    refine ⟨_, rfl, x, a.L, dx, _, rfl, (by rw [upd_ne (Ne.symm x3), upd_ne (Ne.symm xt)]; exact upd_same), T.clL, T.nL_flags, pf3, ?_⟩
    refine k1 n rfl hn _ p1 p2 p3 (fun q o hq e => ?_) h1 h2 h3 ⟨⟨dx, upd_same⟩, ?_, ?_, ?_, Ne.symm e12, Ne.symm e13, Ne.symm e23⟩
    · rw [upd_ne hq, upd_ne (ne_of_none e h3), upd_ne (ne_of_none e ht), upd_ne hq, upd_ne (ne_of_none e h2), upd_ne hq, upd_ne (ne_of_none e h1), upd_ne hq]
      exact e
    · rw [upd_ne x1, upd_ne (Ne.symm e13), upd_ne (Ne.symm t1), upd_ne x1, upd_ne (Ne.symm e12), upd_ne x1, upd_same]
      show some (HO.lst (rgV (-1) ((n : Int) + 1))) = _
      rw [wl_rg]
    · rw [upd_ne x2, upd_ne (Ne.symm e23), upd_ne (Ne.symm t2), upd_ne x2, upd_same]
      show some (HO.lst (rgV 1 ((n : Int) + 3))) = _
      rw [wr_rg]
    · rw [upd_ne x3, upd_same]
      show some (HO.lst (List.replicate ((n : Int) + 2).toNat [V.bl false]).flatten) = _
      rw [wf_rep]
theorem rd_new {C BS : Addr} {H : Hp} {n : Nat} {Q : VK} {E : XK} {x dx : Addr} (hn : n ≤ 60) (hx : H x = none) (hd : H dx = none) (ne : dx ≠ x) (k : ∀ H' p1 p2 p3, Same H H' → H p1 = none → H p2 = none → H p3 = none → LkAt C H' x p1 p2 p3 n (wr n) (wl n) (wf n) → Q .non H') :
    spIni C BS (.ref x :: [.int n]) (upd (upd H dx (.own x)) x (.ins C dx [])) Q E := by
  refine ⟨x, dx, n, rfl, upd_same, fun m hm hm' H' p1 p2 p3 sm h1 h2 h3 lk => ?_, fun q => absurd ⟨by omega, by omega⟩ q⟩
  obtain rfl : n = m := by omega
  refine k H' p1 p2 p3 (fun b o e => ?_) (upd_none (upd_none h1).2).2 (upd_none (upd_none h2).2).2 (upd_none (upd_none h3).2).2 lk
  have hb := ne_of_none e hx
  refine sm b o hb ?_
  rw [upd_ne hb, upd_ne (ne_of_none e hd)]
  exact e
theorem rd_newX {C BS : Addr} {H : Hp} {z : Int} {Q : VK} {E : XK} {x dx : Addr} (hz : ¬(0 ≤ z ∧ z ≤ 60)) (hx : H x = none) (hd : H dx = none) (ne : dx ≠ x) (k : ∀ H' d, Same H H' → H d = none → E (.ref BS) (some d) (upd H' d (.xd [(("size" : Str), .int z)]))) :
    spIni C BS (.ref x :: [.int z]) (upd (upd H dx (.own x)) x (.ins C dx [])) Q E := by
  refine ⟨x, dx, z, rfl, upd_same, fun m hm hm' => absurd ⟨by omega, by omega⟩ hz, fun _ d hd' => ?_⟩
  refine k _ d (fun b o e => ?_) (upd_none (upd_none hd').2).2
  rw [upd_ne (ne_of_none e hx), upd_ne (ne_of_none e hd)]
  exact e
/-! ### built -/
def spBui (C : Addr) : Sp := fun vs H Q _ => ∃ (n : Nat) (pl pr pf : Addr) (r l : List Int) (f : List Bool), vs = [.int n, .ref pl, .ref pr, .ref pf] ∧ n ≤ 60 ∧
  H pl = some (.lst (l.map V.int)) ∧ H pr = some (.lst ((r ++ [(n : Int) + 2]).map V.int)) ∧ H pf = some (.lst (f.map V.bl)) ∧ NewLk C H n r l f Q
theorem sc_bui : FnScope ["size", "lefts", "rights", "flags", "links"] ["size", "lefts", "rights", "flags"] (defScope st_bui) := ⟨rfl, rfl, rfl, by decide +kernel, rfl, by decide +kernel, by decide +kernel⟩
theorem ok_bui (T : Txt K mg a) : Ok PW w K mg base CX0 4 a.bui ["size", "lefts", "rights", "flags"] (spBui a.L) := by
  refine ok_of T.d_bui fun fd F => F.ok sc_bui (fun vs H Q E h => ?_) (fun cdv A outer s H vs Q E hr h => ?_)
  · obtain ⟨n, pl, pr, pf, r, l, f, rfl, _⟩ := h
    rfl
  · obtain ⟨n, pl, pr, pf, r, l, f, rfl, hn, hl, hrr, hf, k⟩ := h
    refine ⟨_, pss_cons (ps_set (i := 4) sc_bui.nd rfl (.inl rfl) (pe_ma T.mkL (ok_ini T) (hr.mono (by decide)) T.g_L passL (pa_cons (pv 0) pa_nil)))
      (pss_cons (ps_fld (pv 4) (pe_callTy call_list_of (by rfl) T.n_list (by decide +kernel) (pa_cons (pv 1) pa_nil)) rfl)
      (pss_cons (ps_fld (pv 4) (pe_callTy call_list_of (by rfl) T.n_list (by decide +kernel) (pa_cons (pv 2) pa_nil)) rfl)
      (pss_cons (ps_fld (pv 4) (pe_callTy call_list_of (by rfl) T.n_list (by decide +kernel) (pa_cons (pv 3) pa_nil)) rfl)
      (pss_one (ps_ret (pv 4)))))), ?_⟩
    refine ⟨_, rfl, fun p dx0 np nd0 ne0 => rd_new hn np nd0 ne0 fun H1 a0 b0 c0 sm na nb nc lk => ⟨rfl, ?_⟩⟩
    obtain ⟨dx, hp⟩ := lk.ob
    refine ⟨_, rfl, pl, _, rfl, .inl (.inl (.inl (sm _ _ hl))), fun p1 h1 => ?_⟩
    have e1 : p ≠ p1 := ne_of_none hp h1
    refine ⟨_, rfl, p, a.L, dx, _, rfl, (by rw [upd_ne e1]; exact hp), T.clL, T.nL_lefts, (by show 4 < 1000; decide), ?_⟩
    have f1 : putF ("_lefts" : Str) (.ref p1) (flds n a0 b0 c0) = flds n p1 b0 c0 := rfl
    rw [f1]
    have plp : pr ≠ p := ne_of_none hrr np
    have pfp : pf ≠ p := ne_of_none hf np
    refine ⟨_, rfl, pr, _, rfl, .inl (.inl (.inl (by rw [upd_ne plp, upd_ne (ne_of_none (sm _ _ hrr) h1)]; exact sm _ _ hrr))), fun p2 h2 => ?_⟩
    obtain ⟨x2, h2⟩ := upd_none h2
    obtain ⟨e12, h2⟩ := upd_none h2
    refine ⟨_, rfl, p, a.L, dx, _, rfl, (by rw [upd_ne (Ne.symm x2)]; exact upd_same), T.clL, T.nL_rights, (by show 4 < 1000; decide), ?_⟩
    have f2 : putF ("_rights" : Str) (.ref p2) (flds n p1 b0 c0) = flds n p1 p2 c0 := rfl
    rw [f2]
    refine ⟨_, rfl, pf, _, rfl, .inl (.inl (.inl (by rw [upd_ne pfp, upd_ne (ne_of_none (sm _ _ hf) h2), upd_ne pfp, upd_ne (ne_of_none (sm _ _ hf) h1)]; exact sm _ _ hf))), fun p3 h3 => ?_⟩
    obtain ⟨x3, h3⟩ := upd_none h3
    obtain ⟨e23, h3⟩ := upd_none h3
    obtain ⟨_, h3⟩ := upd_none h3
    obtain ⟨e13, h3⟩ := upd_none h3
    refine ⟨_, rfl, p, a.L, dx, _, rfl, (by rw [upd_ne (Ne.symm x3)]; exact upd_same), T.clL, T.nL_flags, (by show 4 < 1000; decide), ?_⟩
    have f3 : putF ("_flags" : Str) (.ref p3) (flds n p1 p2 c0) = flds n p1 p2 p3 := rfl
    rw [f3]
    refine ⟨_, rfl, k _ p p1 p2 p3 (fun q o e => ?_) np (sm.free h1) (sm.free h2) (sm.free h3) ⟨⟨dx, upd_same⟩, ?_, ?_, ?_, Ne.symm e12, Ne.symm e13, Ne.symm e23⟩⟩
    · have hq := ne_of_none e np
      have e' := sm _ _ e
      rw [upd_ne hq, upd_ne (ne_of_none e' h3), upd_ne hq, upd_ne (ne_of_none e' h2), upd_ne hq, upd_ne (ne_of_none e' h1)]
      exact e'
    · rw [upd_ne (Ne.symm e1), upd_ne (Ne.symm e13), upd_ne (Ne.symm e1), upd_ne (Ne.symm e12), upd_ne (Ne.symm e1), upd_same]
    · rw [upd_ne x2, upd_ne (Ne.symm e23), upd_ne x2, upd_same]
    · rw [upd_ne x3, upd_same]
end
end LL
namespace LL
open PySem PySem.Spec PyProof.Rows L2 TL
section
variable {w : World} {K : PySem.W.Frag} {mg : Str → Option Value} {base : Heap} {a : Ad}
/-! ### _read_outs -/
theorem gone_pw {n : Nat} {f : List Bool} : (gone n f).Pairwise (· < ·) := by
  unfold gone
  rw [List.pairwise_map]
  refine List.Pairwise.imp ?_ (List.Pairwise.filter _ List.pairwise_lt_range)
  intro x y h
  omega
theorem gone_in {n : Nat} {f : List Bool} {x : Int} (h : x ∈ gone n f) : ∃ k : Nat, k < n ∧ x = (k : Int) + 1 ∧ f.getD (k + 1) false = true := by
  obtain ⟨k, hk, rfl⟩ := List.mem_map.mp h
  exact ⟨k, List.mem_range.mp (List.mem_filter.mp hk).1, rfl, (List.mem_filter.mp hk).2⟩
theorem gone_len {n : Nat} {f : List Bool} : (gone n f).length ≤ n := by
  unfold gone
  rw [List.length_map]
  exact Nat.le_trans (List.length_filter_le _ _) (by rw [List.length_range]; exact Nat.le_refl _)
theorem drop_next {α : Type} {l : List α} {i : Nat} {x : α} (h : l[i]? = some x) : l.drop i = x :: l.drop (i + 1) := by
  have hi := (List.getElem?_eq_some_iff.mp h).1
  rw [List.drop_eq_getElem_cons hi]
  have := (List.getElem?_eq_some_iff.mp h).2
  rw [this]
def spRO : Sp := fun vs H Q _ => ∃ (n : Nat) (f : List Bool), vs = [.str (gtx n f), .int n] ∧ n ≤ 60 ∧ ∀ H' p, Same H H' → H p = none → H' p = some (.lst ((gone n f).map V.int)) → Q (.ref p) H'
theorem sc_ro : FnScope ["part", "size", "outs", "last", "node"] ["part", "size"] (defScope st_ro) := ⟨rfl, rfl, rfl, by decide +kernel, rfl, by decide +kernel, by decide +kernel⟩
theorem ok_ro (T : Txt K mg a) : Ok PW w K mg base CX0 3 a.ro ["part", "size"] spRO := by
  refine ok_of T.d_ro fun fd F => F.ok sc_ro (fun vs H Q E h => ?_) (fun cdv A outer s H vs Q E hr h => ?_)
  · obtain ⟨n, f, rfl, _⟩ := h
    rfl
  · obtain ⟨n, f, rfl, hn, k⟩ := h
    refine ⟨_, pss_cons (ps_if (pt_cmpR op_eq (pv 0) pe_str (nomark _)) (pss_one (ps_ret (pe_lst pa_nil))) pss_nil)
      (pss_cons (ps_set (i := 2) sc_ro.nd rfl (.inl rfl) (pe_ca (ok_nums T) hr T.g_nums pass0 (pa_cons (pv 0) pa_nil)))
      (pss_cons (ps_if (pt_cmpR op_isN (pv 2) pe_non (nomark _)) (pss_one (ps_ret pe_non)) pss_nil)
      (pss_cons (ps_set (i := 3) sc_ro.nd rfl (.inl rfl) pe_int)
      (pss_cons (ps_for PassesOwn.never rfl (pi_list (pv 2)) (pg_name (i := 4) sc_ro.nd rfl (Or.inl rfl))
        (pss_cons (ps_if (pt_not (pt_chain op_lt op_le (pv 3) (pv 4) (pv 1))) (pss_one (ps_ret pe_non)) pss_nil) (pss_one (ps_set (i := 3) sc_ro.nd rfl (.inl rfl) (pv 4)))))
      (pss_one (ps_ret (pv 2))))))), ?_⟩
    refine ⟨_, rfl, rfl, _, rfl, ?_⟩
    by_cases hg : gone n f = []
    · have eg : gtx n f = nonE := if_pos hg
      refine ite2 (fun _ => ?_) (fun q => absurd (decide_eq_true (by rw [eg]; rfl)) q)
      refine ⟨(by show 0 ≤ sizeLine; decide), fun p hp => k _ p (same_upd (Same.refl _) hp) hp ?_⟩
      rw [upd_same, hg]
      rfl
    · have eg : gtx n f = ptx (gone n f) := if_neg hg
      have gs := gone_small (f := f) hn
      refine ite2 (fun q => ?_) (fun _ => ?_)
      · exfalso
        have e1 : V.str (gtx n f) = V.str nonE := of_decide_eq_true q
        rw [eg] at e1
        exact ptx_ne_none hg gs (V.str.inj e1)
      · have gl := gone_len (n := n) (f := f)
        refine ⟨_, rfl, gone n f, (by rw [eg]), hg, gs, by omega, fun H' p sm np hp => ?_⟩
        refine ⟨_, rfl, rfl, _, rfl, ?_⟩
        refine iteF ?_
        refine ⟨_, rfl, p, rfl, ⟨_, .inl (.inl hp)⟩, ?_⟩
        refine for_list (xs := (gone n f).map V.int) (fun i σ H1 => (∃ y z, σ = [some (.str (gtx n f)), some (.int n), some (.ref p), some (.int z), y] ∧ (z :: (gone n f).drop i).Pairwise (· < ·)) ∧ H1 = H') ⟨⟨_, 0, rfl, ?_⟩, rfl⟩ ?_ ?_ ?_
        · refine List.pairwise_cons.mpr ⟨fun x hx => ?_, gone_pw⟩
          obtain ⟨j, _, rfl, _⟩ := gone_in (List.mem_of_mem_drop hx)
          omega
        · rintro i σ H1 _ ⟨_, rfl⟩
          exact .inl (.inl hp)
        · rintro i x σ H1 hx ⟨⟨y, z, rfl, pw⟩, rfl⟩
          obtain ⟨x, hx1, rfl⟩ := map_get hx
          rw [drop_next hx1] at pw
          obtain ⟨pw1, pw2⟩ := List.pairwise_cons.mp pw
          have l1 := pw1 x List.mem_cons_self
          obtain ⟨j, hj, ej, _⟩ := gone_in (List.mem_of_getElem? hx1)
          refine ⟨_, rfl, _, rfl, _, _, rfl, rfl, _, rfl, ?_⟩
          rw [decide_eq_true l1]
          refine iteT ⟨_, rfl, _, _, rfl, rfl, _, rfl, ?_⟩
          rw [decide_eq_true (by omega)]
          exact iteF ⟨_, rfl, ⟨_, x, rfl, pw2⟩, rfl⟩
        · rintro σ H1 ⟨⟨y, z, rfl, _⟩, rfl⟩
          exact ⟨_, rfl, k _ _ sm np hp⟩
/-! ### read -/
theorem split_dmp' {n : Nat} {r l : List Int} {f : List Bool} (h : Wld n r l f) : Txt.split (dmp n r l f) (" | " : Str) = [ptx r, ptx (l.drop 1), gtx n f] := split_dmp h.hn h.rs h.ls
theorem gtx_len {n : Nat} {f : List Bool} (hn : n ≤ 60) : (gtx n f).length ≤ 180 := by
  by_cases hg : gone n f = []
  · rw [show gtx n f = nonE from if_pos hg, len_tl, tl_nonE]
    decide
  · rw [show gtx n f = ptx (gone n f) from if_neg hg]
    have := ptx_len (gone_small (f := f) hn)
    have := gone_len (n := n) (f := f)
    omega
theorem dmp_len {n : Nat} {r l : List Int} {f : List Bool} (h : Wld n r l f) : (dmp n r l f).length ≤ 600 := by
  have h1 := ptx_len h.rs
  have h2 := ptx_len h.ls
  have h3 := gtx_len (f := f) h.hn
  have h4 := h.lr
  have h5 : (l.drop 1).length = n + 1 := by rw [List.length_drop, h.ll]; omega
  have h6 := h.hn
  rw [len_tl] at h1 h2 h3 ⊢
  unfold dmp
  rw [join_eq, tl_join, tl_bar]
  show (tl (ptx r) ++ ([32, 124, 32] ++ (tl (ptx (l.drop 1)) ++ ([32, 124, 32] ++ tl (gtx n f))))).length ≤ 600
  simp only [List.length_append, List.length_cons, List.length_nil]
  omega
def marks (n : Nat) (s : List Int) : List Bool := (List.range (n + 2)).map fun j : Nat => decide ((j : Int) ∈ s)
theorem marks_nil (n : Nat) : marks n [] = wf n := by
  unfold marks wf
  refine List.ext_getElem? fun i => ?_
  rw [List.getElem?_map]
  by_cases h : i < n + 2
  · rw [List.getElem?_range h]
    simp [h]
  · rw [List.getElem?_eq_none (by simp; omega), List.getElem?_eq_none (by simp; omega)]
    rfl
theorem marks_len (n : Nat) (s : List Int) : (marks n s).length = n + 2 := by simp [marks]
theorem marks_set {n j : Nat} {s : List Int} (hj : j < n + 2) : (marks n s).set j true = marks n (s ++ [(j : Int)]) := by
  refine List.ext_getElem? fun i => ?_
  rw [List.getElem?_set]
  unfold marks
  rw [List.length_map, List.length_range]
  by_cases h : i < n + 2
  · by_cases e : j = i
    · subst e
      rw [if_pos rfl, if_pos hj, List.getElem?_map, List.getElem?_range h]
      simp
    · rw [if_neg e, List.getElem?_map, List.getElem?_map, List.getElem?_range h]
      have : (i : Int) ≠ (j : Int) := by omega
      simp [this]
  · have hji : j ≠ i := by omega
    rw [if_neg hji, List.getElem?_eq_none (by simp; omega), List.getElem?_eq_none (by simp; omega)]
theorem marks_gone {n : Nat} {r l : List Int} {f : List Bool} (h : Wld n r l f) : marks n (gone n f) = f := by
  refine List.ext_getElem? fun i => ?_
  unfold marks
  rw [List.getElem?_map]
  by_cases hi : i < n + 2
  · rw [List.getElem?_range hi]
    show some (decide ((i : Int) ∈ gone n f)) = _
    have lf := h.lf
    have ef : f[i]? = some (f.getD i false) := by
      rw [List.getD_eq_getElem?_getD, List.getElem?_eq_getElem (by omega)]
      rfl
    rw [ef]
    congr 1
    by_cases e0 : i = 0
    · subst e0
      have := h.f0
      rw [ef] at this
      rw [Option.some.inj this]
      refine decide_eq_false fun q => ?_
      obtain ⟨k, _, e, _⟩ := gone_in q
      omega
    · obtain ⟨k, rfl⟩ : ∃ k, i = k + 1 := ⟨i - 1, by omega⟩
      by_cases e1 : k = n
      · subst e1
        have := h.f1
        rw [ef] at this
        rw [Option.some.inj this]
        refine decide_eq_false fun q => ?_
        obtain ⟨j, _, e, _⟩ := gone_in q
        omega
      · have m := mem_gone (f := f) (show k < n by omega)
        have ek : ((k + 1 : Nat) : Int) = (k : Int) + 1 := by omega
        rw [ek]
        by_cases q : ((k : Int) + 1) ∈ gone n f
        · rw [decide_eq_true q, m.mp q]
        · rw [decide_eq_false q]
          cases z : f.getD (k + 1) false with
          | true => exact absurd (m.mpr z) q
          | false => rfl
  · rw [List.getElem?_eq_none (by simp; omega), List.getElem?_eq_none (by have := h.lf; omega)]
    rfl
theorem ixN_nat {n j : Nat} (h : j < n) : ixN n (j : Int) = some j := by
  unfold ixN
  rw [if_pos (by omega), if_pos (by omega)]
  simp
theorem NewLk.mono {C : Addr} {H H1 : Hp} {n : Nat} {r l : List Int} {f : List Bool} {Q : VK} (k : NewLk C H n r l f Q) (s : Same H H1) : NewLk C H1 n r l f Q :=
  fun H' p a b c s' hp ha hb hc => k H' p a b c (s.trans s') (s.free hp) (s.free ha) (s.free hb) (s.free hc)
def spRea (C : Addr) : Sp := fun vs H Q _ => ∃ (n : Nat) (r l : List Int) (f : List Bool), vs = [.str (dmp n r l f)] ∧ Wld n r l f ∧ NewLk C H n r l f Q
theorem sc_rea : FnScope ["text", "parts", "rights", "size", "lefts", "outs", "flags", "node"] ["text"] (defScope st_rea) := ⟨rfl, rfl, rfl, by decide +kernel, rfl, by decide +kernel, by decide +kernel⟩
theorem wld_drop {n : Nat} {r l : List Int} {f : List Bool} (h : Wld n r l f) : (-1 : Int) :: l.drop 1 = l := by
  have h0 := h.l0
  cases l with
  | nil => simp at h0
  | cons x t =>
    simp at h0
    subst h0
    rfl
theorem ok_rea (T : Txt K mg a) : Ok PW w K mg base CX0 5 a.rea ["text"] (spRea a.L) := by
  refine ok_of T.d_rea fun fd F => F.ok sc_rea (fun vs H Q E h => ?_) (fun cdv A outer s H vs Q E hr h => ?_)
  · obtain ⟨n, r, l, f, rfl, _⟩ := h
    rfl
  · obtain ⟨n, r, l, f, rfl, W, k⟩ := h
    obtain ⟨t3, g3⟩ := T.v_PARTS
    refine ⟨_, pss_cons (ps_set (i := 1) sc_rea.nd rfl (.inl rfl) (pe_split (pv 0) pe_str))
      (pss_cons (ps_set (i := 2) sc_rea.nd rfl (.inl rfl) (pe_ca (ok_rr T) (hr.mono (by decide)) T.g_rr pass0 (pa_cons (pe_ix ix_list (pv 1) pe_int (fun _ _ => rfl)) pa_nil)))
      (pss_cons (ps_if (pt_cmpR op_isN (pv 2) pe_non (nomark _)) (pss_one ps_never) pss_nil)
      (pss_cons (ps_set (i := 3) sc_rea.nd rfl (.inl rfl) (pe_op op_sub (pe_callB call_len_seq (by rfl) T.n_len PySem.boot_len (pa_cons (pv 2) pa_nil)) pe_int))
      (pss_cons (ps_set (i := 4) sc_rea.nd rfl (.inl rfl) (pe_ifExp (pt_cmpR op_gt (pe_callB call_len_seq (by rfl) T.n_len PySem.boot_len (pa_cons (pv 1) pa_nil)) pe_int (nomark _))
        (pe_ca (ok_rl T) (hr.mono (by decide)) T.g_rl pass0 (pa_cons (pe_ix ix_list (pv 1) pe_int (fun _ _ => rfl)) (pa_cons (pv 3) pa_nil))) pe_non))
      (pss_cons (ps_if (pt_cmpR op_isN (pv 4) pe_non (nomark _)) (pss_one ps_never) pss_nil)
      (pss_cons (ps_set (i := 5) sc_rea.nd rfl (.inl rfl) (pe_ifExp (pt_cmpR op_gt (pe_callB call_len_seq (by rfl) T.n_len PySem.boot_len (pa_cons (pv 1) pa_nil)) pe_int (nomark _))
        (pe_ca (ok_ro T) (hr.mono (by decide)) T.g_ro pass0 (pa_cons (pe_ix ix_list (pv 1) pe_int (fun _ _ => rfl)) (pa_cons (pv 3) pa_nil))) pe_non))
      (pss_cons (ps_if (pt_cmpR op_isN (pv 5) pe_non (nomark _)) (pss_one ps_never) pss_nil)
      (pss_cons (ps_if (pt_cmpR op_gt (pe_callB call_len_seq (by rfl) T.n_len PySem.boot_len (pa_cons (pv 1) pa_nil)) (pe_glob (v := .int 3) rfl g3 ⟨_, rfl⟩) (nomark _)) (pss_one ps_never) pss_nil)
      (pss_cons (ps_set (i := 6) sc_rea.nd rfl (.inl rfl) (pe_op op_rep (pe_lst (pa_cons pe_bl pa_nil)) (pe_op op_add (pv 3) pe_int)))
      (pss_cons (ps_for PassesOwn.never rfl (pi_list (pv 5)) (pg_name (i := 7) sc_rea.nd rfl (Or.inl rfl)) (pss_one (ps_asg pe_bl (pg_sub (pv 6) (pv 7) set_list))))
      (pss_one (ps_ret (pe_sm (pe_glob (v := .ref a.L) rfl T.g_L rfl) T.crL T.m_bui (ok_bui T) hr pass0 (pa_cons (pv 3) (pa_cons (pe_op op_cat (pe_lst (pa_cons (pe_un un_neg pe_int) pa_nil)) (pv 4))
        (pa_cons (pe_op op_cat (pv 2) (pe_lst (pa_cons (pe_op op_add (pv 3) pe_int) pa_nil))) (pa_cons (pv 6) pa_nil))))))))))))))))), ?_⟩
    have lr := W.lr
    have hn := W.hn
    have ld : (l.drop 1).length = n + 1 := by rw [List.length_drop, W.ll]; omega
    refine ⟨_, rfl, ⟨_, rfl⟩, _, _, rfl, rfl, (by decide +kernel), (by have := dmp_len W; show _ ≤ 16777216; omega), fun p0 hp0 => ?_⟩
    rw [split_dmp' W]
    refine ⟨_, rfl, p0, _, _, _, rfl, rfl, .inl (.inl upd_same), rfl, r, rfl, W.rne, W.rs, by omega, fun v x hx => ?_, fun H1 pr s1 n1 h1 => ?_⟩
    · have := W.r1 v x hx
      omega
    have l0 := s1 _ _ (upd_same (H := H) (a := p0))
    refine ⟨_, rfl, rfl, _, rfl, iteF ?_⟩
    refine ⟨_, rfl, pr, _, rfl, .inl (.inl (.inl h1)), _, _, rfl, rfl, ?_⟩
    have en : (((r.map V.int).length : Nat) : Int) - 1 = (n : Int) := by rw [List.length_map]; omega
    dsimp only
    rw [en]
    refine ⟨_, rfl, p0, _, rfl, .inl (.inl (.inl l0)), _, _, rfl, rfl, _, rfl, iteT ?_⟩
    refine ⟨_, rfl, p0, _, _, _, rfl, rfl, .inl (.inl l0), rfl, _, rfl, l.drop 1, n, rfl, W.lne, W.ls, ld, hn, fun v x hx => ?_, fun H2 pl s2 n2 h2 => ?_⟩
    · rw [List.getElem?_drop, Nat.add_comm] at hx
      exact (W.l1 v x hx).2
    have l0 := s2 _ _ l0
    refine ⟨_, rfl, rfl, _, rfl, iteF ?_⟩
    refine ⟨_, rfl, p0, _, rfl, .inl (.inl (.inl l0)), _, _, rfl, rfl, _, rfl, iteT ?_⟩
    refine ⟨_, rfl, p0, _, _, _, rfl, rfl, .inl (.inl l0), rfl, _, rfl, n, f, rfl, hn, fun H3 po s3 n3 h3 => ?_⟩
    have l0 := s3 _ _ l0
    have h2 := s3 _ _ h2
    have h1 := s3 _ _ (s2 _ _ h1)
    have sm : Same H H3 := (((same_upd (Same.refl _) hp0).trans s1).trans s2).trans s3
    refine ⟨_, rfl, rfl, _, rfl, iteF ?_⟩
    refine ⟨_, rfl, p0, _, rfl, .inl (.inl (.inl l0)), _, _, rfl, rfl, _, rfl, iteF ?_⟩
    refine ⟨(by show 1 ≤ sizeLine; decide), fun t ht => ?_⟩
    refine ⟨_, rfl, _, _, rfl, rfl, _, _, _, rfl, rfl, upd_same, by omega, by omega, (by show 1 * _ ≤ 16777216; omega), fun pf hpf => ?_⟩
    rw [wf_rep]
    have sm4 : Same H3 (upd H3 t (.lst [.bl false])) := same_upd (Same.refl _) ht
    generalize upd H3 t (.lst [.bl false]) = H4 at *
    refine ⟨_, rfl, po, rfl, ⟨_, .inl (.inl ((same_upd sm4 hpf) _ _ h3))⟩, ?_⟩
    refine for_list (xs := (gone n f).map V.int) (fun i σ H5 => (∃ y, σ = [some (.str (dmp n r l f)), some (.ref p0), some (.ref pr), some (.int n), some (.ref pl), some (.ref po), some (.ref pf), y]) ∧
      H5 = upd H4 pf (.lst ((marks n ((gone n f).take i)).map V.bl))) ⟨⟨_, rfl⟩, ?_⟩ ?_ ?_ ?_
    · rw [List.take_zero, marks_nil]
    · rintro i σ H5 _ ⟨_, rfl⟩
      exact .inl (.inl ((same_upd sm4 hpf) _ _ h3))
    · rintro i x σ H5 hx ⟨⟨y, rfl⟩, rfl⟩
      obtain ⟨x, hx1, rfl⟩ := map_get hx
      obtain ⟨j, hj, ej, _⟩ := gone_in (List.mem_of_getElem? hx1)
      have ej' : x = ((j + 1 : Nat) : Int) := by omega
      subst ej'
      refine ⟨_, rfl, _, rfl, pf, _, _, j + 1, rfl, rfl, upd_same, ixN_nat (by rw [List.length_map, marks_len]; omega), ⟨⟨_, rfl⟩, ?_⟩⟩
      rw [upd_upd, take_next hx1, ← marks_set (by omega), List.map_set]
    · rintro σ H5 ⟨⟨y, rfl⟩, rfl⟩
      rw [List.length_map, List.take_length, marks_gone W]
      have s5 := same_upd (o := .lst (f.map V.bl)) sm4 hpf
      refine ⟨rfl, _, rfl, _, rfl, (by show 1 ≤ sizeLine; decide), fun q1 hq1 => ?_⟩
      have s6 := same_upd (o := .lst [.int (-1)]) s5 hq1
      refine ⟨_, rfl, q1, pl, _, _, rfl, rfl, upd_same, s6 _ _ h2, (by show 1 + _ ≤ 16777216; rw [List.length_map]; omega), fun q2 hq2 => ?_⟩
      have s7 := same_upd (o := .lst ([.int (-1)] ++ (l.drop 1).map V.int)) s6 hq2
      refine ⟨_, rfl, _, rfl, _, _, rfl, rfl, (by show 1 ≤ sizeLine; decide), fun q3 hq3 => ?_⟩
      have s8 := same_upd (o := .lst [.int ((n : Int) + 2)]) s7 hq3
      refine ⟨pr, q3, _, _, rfl, rfl, s8 _ _ h1, upd_same, (by show _ + 1 ≤ 16777216; rw [List.length_map]; omega), fun q4 hq4 => ?_⟩
      have s9 := same_upd (o := .lst (r.map V.int ++ [.int ((n : Int) + 2)])) s8 hq4
      have c1 := same_upd (o := .lst [.int (-1)]) (Same.refl (upd H4 pf (.lst (f.map V.bl)))) hq1
      have c2 := same_upd (o := .lst ([.int (-1)] ++ (l.drop 1).map V.int)) c1 hq2
      have c3 := same_upd (o := .lst [.int ((n : Int) + 2)]) c2 hq3
      have c4 := same_upd (o := .lst (r.map V.int ++ [.int ((n : Int) + 2)])) c3 hq4
      obtain ⟨e43, hq4'⟩ := upd_none hq4
      obtain ⟨e42, _⟩ := upd_none hq4'
      obtain ⟨e32, _⟩ := upd_none hq3
      refine ⟨_, rfl, n, q2, q4, pf, r, l, f, rfl, hn, ?_, ?_, ?_, ?_⟩
      · rw [upd_ne (Ne.symm e42), upd_ne (Ne.symm e32), upd_same]
        show some (HO.lst (((-1 : Int) :: l.drop 1).map V.int)) = _
        rw [wld_drop W]
      · rw [upd_same, List.map_append]
        rfl
      · exact c4 _ _ upd_same
      · exact k.mono (sm.trans s9)
/-! ### left, right, is_out -/
def spLef (C BN : Addr) : Sp := fun vs H Q E => ∃ (p pa pb pc : Addr) (n : Nat) (r l : List Int) (f : List Bool) (z : Int), vs = [.ref p, .int z] ∧ LkAt C H p pa pb pc n r l f ∧ l.length = n + 2 ∧
  (∀ (v : Nat) (x : Int), z = v → 1 ≤ v → v ≤ n + 1 → l[v]? = some x → Q (.int x) H) ∧ (¬(1 ≤ z ∧ z ≤ n + 1) → ∀ d, H d = none → E (.ref BN) (some d) (upd H d (.xd [(("node" : Str), .int z)])))
theorem sc_lef : FnScope ["self", "node"] ["self", "node"] (defScope st_lef) := ⟨rfl, rfl, rfl, by decide +kernel, rfl, by decide +kernel, by decide +kernel⟩
theorem get_some {α : Type} {l : List α} {i : Nat} (h : i < l.length) : ∃ x, l[i]? = some x := ⟨_, List.getElem?_eq_getElem h⟩
theorem at_map {α : Type} {f : α → V} {l : List α} {i : Nat} {x : α} (h : l[i]? = some x) : atI (l.map f) (i : Int) = some (f x) := atI_nat (by rw [List.getElem?_map, h]; rfl)
theorem ok_lef (T : Txt K mg a) : Ok PW w K mg base (L2.CX PW w) 1 a.lef ["self", "node"] (spLef a.L a.BN) := by
  refine ok_of T.d_lef fun fd F => F.okX sc_lef (fun vs H Q E h => ?_) (fun cdv A outer s H vs Q E hr h => ?_)
  · obtain ⟨p, pa, pb, pc, n, r, l, f, z, rfl, _⟩ := h
    rfl
  · obtain ⟨p, pa, pb, pc, n, r, l, f, z, rfl, lk, ll, k1, k2⟩ := h
    obtain ⟨dx, hp⟩ := lk.ob
    refine ⟨_, pss_cons (ps_if (pt_not (pt_chain op_le op_le pe_int (pv 1) (pe_op op_add (pe_fld (pv 0) rfl) pe_int))) (pss_one (ps_raise rfl (takes_of rfl rfl rfl rfl) (pmk_x T.x_BN T.i_BN T.iniBN hr T.g_BN (pa_cons (pv 1) pa_nil)))) pss_nil)
      (pss_one (ps_ret (pe_ix ix_list (pe_fld (pv 0) rfl) (pv 1) (fun _ _ => rfl)))), ?_⟩
    refine ⟨_, rfl, _, _, rfl, rfl, _, rfl, ?_⟩
    by_cases h0 : 1 ≤ z
    · rw [decide_eq_true h0]
      refine iteT ⟨_, rfl, p, a.L, dx, _, _, rfl, hp, T.clL, T.nL_size, rfl, _, _, rfl, rfl, _, _, rfl, rfl, _, rfl, ?_⟩
      by_cases h1 : z ≤ (n : Int) + 1
      · rw [decide_eq_true h1]
        obtain ⟨v, rfl⟩ : ∃ v : Nat, z = v := ⟨z.toNat, by omega⟩
        obtain ⟨x, hx⟩ := get_some (l := l) (i := v) (by omega)
        refine iteF ⟨_, rfl, p, a.L, dx, _, _, rfl, hp, T.clL, T.nL_lefts, rfl, _, rfl, pa, _, _, _, rfl, rfl, .inl (.inl lk.la), at_map hx, k1 v x rfl (by omega) (by omega) hx⟩
      · rw [decide_eq_false h1]
        exact iteT ⟨_, rfl, rfl, (by show 1 ≤ sizeLine; decide), fun d hd => k2 (fun q => h1 q.2) d hd⟩
    · rw [decide_eq_false h0]
      refine iteF ⟨_, rfl, ?_⟩
      exact iteT ⟨_, rfl, rfl, (by show 1 ≤ sizeLine; decide), fun d hd => k2 (fun q => h0 q.1) d hd⟩
def spRig (C BN : Addr) : Sp := fun vs H Q E => ∃ (p pa pb pc : Addr) (n : Nat) (r l : List Int) (f : List Bool) (z : Int), vs = [.ref p, .int z] ∧ LkAt C H p pa pb pc n r l f ∧ r.length = n + 1 ∧
  (∀ (v : Nat) (x : Int), z = v → v ≤ n → r[v]? = some x → Q (.int x) H) ∧ (¬(0 ≤ z ∧ z ≤ n) → ∀ d, H d = none → E (.ref BN) (some d) (upd H d (.xd [(("node" : Str), .int z)])))
theorem sc_rig : FnScope ["self", "node"] ["self", "node"] (defScope st_rig) := ⟨rfl, rfl, rfl, by decide +kernel, rfl, by decide +kernel, by decide +kernel⟩
theorem app_get {r : List Int} {v : Nat} {x y : Int} (h : r[v]? = some x) : (r ++ [y])[v]? = some x := by
  rw [List.getElem?_append_left (List.getElem?_eq_some_iff.mp h).1]
  exact h
theorem ok_rig (T : Txt K mg a) : Ok PW w K mg base (L2.CX PW w) 1 a.rig ["self", "node"] (spRig a.L a.BN) := by
  refine ok_of T.d_rig fun fd F => F.okX sc_rig (fun vs H Q E h => ?_) (fun cdv A outer s H vs Q E hr h => ?_)
  · obtain ⟨p, pa, pb, pc, n, r, l, f, z, rfl, _⟩ := h
    rfl
  · obtain ⟨p, pa, pb, pc, n, r, l, f, z, rfl, lk, ll, k1, k2⟩ := h
    obtain ⟨dx, hp⟩ := lk.ob
    refine ⟨_, pss_cons (ps_if (pt_not (pt_chain op_le op_le pe_int (pv 1) (pe_fld (pv 0) rfl))) (pss_one (ps_raise rfl (takes_of rfl rfl rfl rfl) (pmk_x T.x_BN T.i_BN T.iniBN hr T.g_BN (pa_cons (pv 1) pa_nil)))) pss_nil)
      (pss_one (ps_ret (pe_ix ix_list (pe_fld (pv 0) rfl) (pv 1) (fun _ _ => rfl)))), ?_⟩
    refine ⟨_, rfl, _, _, rfl, rfl, _, rfl, ?_⟩
    by_cases h0 : 0 ≤ z
    · rw [decide_eq_true h0]
      refine iteT ⟨_, rfl, p, a.L, dx, _, _, rfl, hp, T.clL, T.nL_size, rfl, _, _, rfl, rfl, _, rfl, ?_⟩
      by_cases h1 : z ≤ (n : Int)
      · rw [decide_eq_true h1]
        obtain ⟨v, rfl⟩ : ∃ v : Nat, z = v := ⟨z.toNat, by omega⟩
        obtain ⟨x, hx⟩ := get_some (l := r) (i := v) (by omega)
        refine iteF ⟨_, rfl, p, a.L, dx, _, _, rfl, hp, T.clL, T.nL_rights, rfl, _, rfl, pb, _, _, _, rfl, rfl, .inl (.inl lk.rb), at_map (app_get hx), k1 v x rfl (by omega) hx⟩
      · rw [decide_eq_false h1]
        exact iteT ⟨_, rfl, rfl, (by show 1 ≤ sizeLine; decide), fun d hd => k2 (fun q => h1 q.2) d hd⟩
    · rw [decide_eq_false h0]
      refine iteF ⟨_, rfl, ?_⟩
      exact iteT ⟨_, rfl, rfl, (by show 1 ≤ sizeLine; decide), fun d hd => k2 (fun q => h0 q.1) d hd⟩
def spIso (C BN : Addr) : Sp := fun vs H Q E => ∃ (p pa pb pc : Addr) (n : Nat) (r l : List Int) (f : List Bool) (z : Int), vs = [.ref p, .int z] ∧ LkAt C H p pa pb pc n r l f ∧ f.length = n + 2 ∧
  (∀ (v : Nat) (x : Bool), z = v → v ≤ n + 1 → f[v]? = some x → Q (.bl x) H) ∧ (¬(0 ≤ z ∧ z ≤ n + 1) → ∀ d, H d = none → E (.ref BN) (some d) (upd H d (.xd [(("node" : Str), .int z)])))
theorem sc_iso : FnScope ["self", "node"] ["self", "node"] (defScope st_iso) := ⟨rfl, rfl, rfl, by decide +kernel, rfl, by decide +kernel, by decide +kernel⟩
theorem ok_iso (T : Txt K mg a) : Ok PW w K mg base (L2.CX PW w) 1 a.iso ["self", "node"] (spIso a.L a.BN) := by
  refine ok_of T.d_iso fun fd F => F.okX sc_iso (fun vs H Q E h => ?_) (fun cdv A outer s H vs Q E hr h => ?_)
  · obtain ⟨p, pa, pb, pc, n, r, l, f, z, rfl, _⟩ := h
    rfl
  · obtain ⟨p, pa, pb, pc, n, r, l, f, z, rfl, lk, ll, k1, k2⟩ := h
    obtain ⟨dx, hp⟩ := lk.ob
    refine ⟨_, pss_cons (ps_if (pt_not (pt_chain op_le op_le pe_int (pv 1) (pe_op op_add (pe_fld (pv 0) rfl) pe_int))) (pss_one (ps_raise rfl (takes_of rfl rfl rfl rfl) (pmk_x T.x_BN T.i_BN T.iniBN hr T.g_BN (pa_cons (pv 1) pa_nil)))) pss_nil)
      (pss_one (ps_ret (pe_ix ix_list (pe_fld (pv 0) rfl) (pv 1) (fun _ _ => rfl)))), ?_⟩
    refine ⟨_, rfl, _, _, rfl, rfl, _, rfl, ?_⟩
    by_cases h0 : 0 ≤ z
    · rw [decide_eq_true h0]
      refine iteT ⟨_, rfl, p, a.L, dx, _, _, rfl, hp, T.clL, T.nL_size, rfl, _, _, rfl, rfl, _, _, rfl, rfl, _, rfl, ?_⟩
      by_cases h1 : z ≤ (n : Int) + 1
      · rw [decide_eq_true h1]
        obtain ⟨v, rfl⟩ : ∃ v : Nat, z = v := ⟨z.toNat, by omega⟩
        obtain ⟨x, hx⟩ := get_some (l := f) (i := v) (by omega)
        refine iteF ⟨_, rfl, p, a.L, dx, _, _, rfl, hp, T.clL, T.nL_flags, rfl, _, rfl, pc, _, _, _, rfl, rfl, .inl (.inl lk.fc), at_map hx, k1 v x rfl (by omega) hx⟩
      · rw [decide_eq_false h1]
        exact iteT ⟨_, rfl, rfl, (by show 1 ≤ sizeLine; decide), fun d hd => k2 (fun q => h1 q.2) d hd⟩
    · rw [decide_eq_false h0]
      refine iteF ⟨_, rfl, ?_⟩
      exact iteT ⟨_, rfl, rfl, (by show 1 ≤ sizeLine; decide), fun d hd => k2 (fun q => h0 q.1) d hd⟩
end
end LL
namespace LL
open PySem PySem.Spec PyProof.Rows L2 TL
section
variable {w : World} {K : PySem.W.Frag} {mg : Str → Option Value} {base : Heap} {a : Ad}
/-! ### apply_at -/
def nr (r : List Int) (k lo hi : Nat) (o : Bool) : List Int := r.set lo (if o = true then (hi : Int) else (k : Int))
def nl (l : List Int) (k lo hi : Nat) (o : Bool) : List Int := l.set hi (if o = true then (lo : Int) else (k : Int))
def Hst (H : Hp) (pa pb pc : Addr) (n : Nat) (r l : List Int) (f : List Bool) (k lo hi : Nat) (o : Bool) : Hp :=
  upd (upd (upd H pb (.lst ((nr r k lo hi o ++ [(n : Int) + 2]).map V.int))) pa (.lst ((nl l k lo hi o).map V.int))) pc (.lst ((f.set k o).map V.bl))
theorem not_bad {n : Nat} {op : Int} (h : ¬ BadOp n op) : ∃ k : Nat, ab op = k ∧ 1 ≤ k ∧ k ≤ n := by
  have h0 : op ≠ 0 := fun q => h (.inl q)
  have h1 : ¬ (n : Int) < ab op := fun q => h (.inr q)
  have h2 : 1 ≤ ab op := by
    unfold ab
    by_cases c : op < 0
    · rw [if_pos c]; omega
    · rw [if_neg c]; omega
  exact ⟨(ab op).toNat, by omega, by omega, by omega⟩
theorem Wld.lohi {n : Nat} {r l : List Int} {f : List Bool} (W : Wld n r l f) {k : Nat} (h1 : 1 ≤ k) (h2 : k ≤ n) : ∃ lo hi : Nat, l[k]? = some (lo : Int) ∧ r[k]? = some (hi : Int) ∧ lo < k ∧ k < hi ∧ hi ≤ n + 1 := by
  obtain ⟨x, hx⟩ := get_some (l := l) (i := k) (by rw [W.ll]; omega)
  obtain ⟨y, hy⟩ := get_some (l := r) (i := k) (by rw [W.lr]; omega)
  obtain ⟨j, rfl⟩ : ∃ j, k = j + 1 := ⟨k - 1, by omega⟩
  have b1 := W.l1 j x hx
  have b2 := W.r1 _ y hy
  refine ⟨x.toNat, y.toNat, ?_, ?_, by omega, by omega, by omega⟩
  · rw [hx]; congr 1; omega
  · rw [hy]; congr 1; omega
def xdO (op ix : Int) : HO := .xd [(("index" : Str), .int ix), (("operation" : Str), .int op)]
def spApa (C BO IL : Addr) : Sp := fun vs H Q E => ∃ (p pa pb pc : Addr) (n : Nat) (r l : List Int) (f : List Bool) (op ix : Int), vs = [.ref p, .int op, .int ix] ∧ LkAt C H p pa pb pc n r l f ∧ Wld n r l f ∧
  (BadOp n op → ∀ d, H d = none → E (.ref BO) (some d) (upd H d (xdO op ix))) ∧
  (∀ k : Nat, ¬ BadOp n op → ab op = k → f[k]? = some (decide (op < 0)) → ∀ d, H d = none → E (.ref IL) (some d) (upd H d (xdO op ix))) ∧
  (∀ k lo hi : Nat, ¬ BadOp n op → ab op = k → f[k]? = some (!decide (op < 0)) → l[k]? = some (lo : Int) → r[k]? = some (hi : Int) → Q .non (Hst H pa pb pc n r l f k lo hi (decide (op < 0))))
theorem sc_apa : FnScope ["self", "operation", "index", "node", "is_unlink", "low", "high"] ["self", "operation", "index"] (defScope st_apa) := ⟨rfl, rfl, rfl, by decide +kernel, rfl, by decide +kernel, by decide +kernel⟩
theorem ok_apa (T : Txt K mg a) : Ok PW w K mg base (L2.CX PW w) 2 a.apa ["self", "operation", "index"] (spApa a.L a.BO a.IL) := by
  refine ok_of T.d_apa fun fd F => F.okX sc_apa (fun vs H Q E h => ?_) (fun cdv A outer s H vs Q E hr h => ?_)
  · obtain ⟨p, pa, pb, pc, n, r, l, f, op, ix, rfl, _⟩ := h
    rfl
  · obtain ⟨p, pa, pb, pc, n, r, l, f, op, ix, rfl, lk, W, k1, k2, k3⟩ := h
    obtain ⟨dx, hp⟩ := lk.ob
    refine ⟨_, pss_cons (ps_expr (pe_ca (ok_co T) hr T.g_co (passes_call (takes_of rfl rfl rfl rfl) (fun _ _ _ _ h => h)) (pa_cons (pe_fld (pv 0) rfl) (pa_cons (pv 1) (pa_cons (pv 2) pa_nil)))))
      (pss_cons (ps_set (i := 3) sc_apa.nd rfl (.inl rfl) (pe_callB call_abs (by rfl) T.n_abs (by decide +kernel) (pa_cons (pv 1) pa_nil)))
      (pss_cons (ps_set (i := 4) sc_apa.nd rfl (.inl rfl) (pe_cmpR op_lt (pv 1) pe_int (nomark _)))
      (pss_cons (ps_if (pt_cmpR op_eq (pe_ix ix_list (pe_fld (pv 0) rfl) (pv 3) (fun _ _ => rfl)) (pv 4) (nomark _)) (pss_one (ps_raise rfl (takes_of rfl rfl rfl rfl) (pmk_x T.x_IL T.i_IL T.iniIL hr T.g_IL (pa_cons (pv 1) (pa_cons (pv 2) pa_nil))))) pss_nil)
      (pss_cons (ps_set (i := 5) sc_apa.nd rfl (.inl rfl) (pe_ix ix_list (pe_fld (pv 0) rfl) (pv 3) (fun _ _ => rfl)))
      (pss_cons (ps_set (i := 6) sc_apa.nd rfl (.inl rfl) (pe_ix ix_list (pe_fld (pv 0) rfl) (pv 3) (fun _ _ => rfl)))
      (pss_cons (ps_asg (pe_ifExp (pt_val (pv 4)) (pv 6) (pv 3)) (pg_sub (pe_fld (pv 0) rfl) (pv 5) set_list))
      (pss_cons (ps_asg (pe_ifExp (pt_val (pv 4)) (pv 5) (pv 3)) (pg_sub (pe_fld (pv 0) rfl) (pv 6) set_list))
      (pss_one (ps_asg (pv 4) (pg_sub (pe_fld (pv 0) rfl) (pv 3) set_list)))))))))), ?_⟩
    refine ⟨_, rfl, p, a.L, dx, _, _, rfl, hp, T.clL, T.nL_size, rfl, _, rfl, _, rfl, n, op, ix, rfl, fun nb => ?_, k1⟩
    obtain ⟨k, hk, hk1, hk2⟩ := not_bad nb
    obtain ⟨lo, hi, hl, hh, b1, b2, b3⟩ := W.lohi hk1 hk2
    have lr := W.lr
    have ll := W.ll
    have lf := W.lf
    obtain ⟨fk, hf⟩ := get_some (l := f) (i := k) (by omega)
    refine ⟨_, rfl, _, rfl, ?_⟩
    dsimp only
    rw [show (if op < 0 then -op else op) = (k : Int) from hk]
    refine ⟨_, rfl, _, _, rfl, rfl, ?_⟩
    dsimp only
    refine ⟨_, rfl, p, a.L, dx, _, _, rfl, hp, T.clL, T.nL_flags, rfl, _, rfl, pc, _, _, _, rfl, rfl, .inl (.inl lk.fc), at_map hf, _, rfl, rfl, _, rfl, ?_⟩
    refine ite2 (fun q => ?_) (fun q => ?_)
    · have e : fk = decide (op < 0) := V.bl.inj (of_decide_eq_true q)
      subst e
      exact ⟨_, rfl, _, rfl, rfl, (by show 2 ≤ sizeLine; decide), fun d hd => k2 k nb hk hf d hd⟩
    · have e : fk = !decide (op < 0) := by
        have q' : fk ≠ decide (op < 0) := fun z => q (decide_eq_true (by rw [z]))
        revert q'
        cases fk <;> cases decide (op < 0) <;> simp
      subst e
      have kq := k3 k lo hi nb hk hf hl hh
      refine ⟨_, rfl, p, a.L, dx, _, _, rfl, hp, T.clL, T.nL_lefts, rfl, _, rfl, pa, _, _, _, rfl, rfl, .inl (.inl lk.la), at_map hl, ?_⟩
      refine ⟨_, rfl, p, a.L, dx, _, _, rfl, hp, T.clL, T.nL_rights, rfl, _, rfl, pb, _, _, _, rfl, rfl, .inl (.inl lk.rb), at_map (app_get hh), ?_⟩
      have pneb : p ≠ pb := ne_of hp lk.rb (by intro z; cases z)
      have pnea : p ≠ pa := ne_of hp lk.la (by intro z; cases z)
      generalize decide (op < 0) = o at *
      have fin : ∀ vr vl : Int, vr = (if o = true then (hi : Int) else (k : Int)) → vl = (if o = true then (lo : Int) else (k : Int)) →
          upd (upd (upd H pb (.lst (((r ++ [(n : Int) + 2]).map V.int).set lo (.int vr)))) pa (.lst ((l.map V.int).set hi (.int vl)))) pc (.lst ((f.map V.bl).set k (.bl o))) = Hst H pa pb pc n r l f k lo hi o := by
        rintro vr vl rfl rfl
        unfold Hst nr nl
        rw [← List.map_set, ← List.map_set, ← List.map_set, List.set_append_left _ _ (by omega)]
      cases o with
      | true =>
        refine ⟨_, rfl, true, rfl, iteT ⟨_, rfl, _, rfl, p, a.L, dx, _, _, rfl, hp, T.clL, T.nL_rights, rfl, _, rfl, pb, _, _, lo, rfl, rfl, lk.rb, ixN_nat (by simp; omega), ?_⟩⟩
        refine ⟨_, rfl, true, rfl, iteT ⟨_, rfl, _, rfl, p, a.L, dx, _, _, rfl, (by rw [upd_ne pneb]; exact hp), T.clL, T.nL_lefts, rfl, _, rfl, pa, _, _, hi, rfl, rfl, (by rw [upd_ne lk.ab]; exact lk.la), ixN_nat (by simp; omega), ?_⟩⟩
        refine ⟨_, rfl, _, rfl, p, a.L, dx, _, _, rfl, (by rw [upd_ne pnea, upd_ne pneb]; exact hp), T.clL, T.nL_flags, rfl, _, rfl, pc, _, _, k, rfl, rfl, (by rw [upd_ne (Ne.symm lk.ac), upd_ne (Ne.symm lk.bc)]; exact lk.fc), ixN_nat (by simp; omega), ?_⟩
        rw [fin hi lo rfl rfl]
        exact kq
      | false =>
        refine ⟨_, rfl, false, rfl, iteF ⟨_, rfl, _, rfl, p, a.L, dx, _, _, rfl, hp, T.clL, T.nL_rights, rfl, _, rfl, pb, _, _, lo, rfl, rfl, lk.rb, ixN_nat (by simp; omega), ?_⟩⟩
        refine ⟨_, rfl, false, rfl, iteF ⟨_, rfl, _, rfl, p, a.L, dx, _, _, rfl, (by rw [upd_ne pneb]; exact hp), T.clL, T.nL_lefts, rfl, _, rfl, pa, _, _, hi, rfl, rfl, (by rw [upd_ne lk.ab]; exact lk.la), ixN_nat (by simp; omega), ?_⟩⟩
        refine ⟨_, rfl, _, rfl, p, a.L, dx, _, _, rfl, (by rw [upd_ne pnea, upd_ne pneb]; exact hp), T.clL, T.nL_flags, rfl, _, rfl, pc, _, _, k, rfl, rfl, (by rw [upd_ne (Ne.symm lk.ac), upd_ne (Ne.symm lk.bc)]; exact lk.fc), ixN_nat (by simp; omega), ?_⟩
        rw [fin k k rfl rfl]
        exact kq
def spApp (C BO IL : Addr) : Sp := fun vs H Q E => ∃ (p : Addr) (op : Int), vs = [.ref p, .int op] ∧ spApa C BO IL [.ref p, .int op, .int 0] H (fun v H' => v = .non ∧ Q .non H') E
theorem sc_app : FnScope ["self", "operation"] ["self", "operation"] (defScope st_app) := ⟨rfl, rfl, rfl, by decide +kernel, rfl, by decide +kernel, by decide +kernel⟩
theorem ok_app (T : Txt K mg a) : Ok PW w K mg base (L2.CX PW w) 3 a.app ["self", "operation"] (spApp a.L a.BO a.IL) := by
  refine ok_of T.d_app fun fd F => F.okX sc_app (fun vs H Q E h => ?_) (fun cdv A outer s H vs Q E hr h => ?_)
  · obtain ⟨p, op, rfl, _⟩ := h
    rfl
  · obtain ⟨p, op, rfl, h⟩ := h
    have hp : ∃ pa pb pc n, ∃ dx, H p = some (.ins a.L dx (flds n pa pb pc)) := by
      obtain ⟨p', pa, pb, pc, n, r, l, f, op', ix, e, lk, _⟩ := h
      cases e
      exact ⟨pa, pb, pc, n, lk.ob⟩
    obtain ⟨pa, pb, pc, n, dx, hp⟩ := hp
    refine ⟨_, pss_one (ps_expr (pe_me (pv 0) T.clL T.m_apa (ok_apa T) hr (passes_call (takes_of rfl rfl rfl rfl) (fun _ _ _ _ h => h)) (pa_cons (pv 1) (pa_cons pe_int pa_nil)))), ?_⟩
    refine ⟨_, rfl, p, dx, _, rfl, hp, rfl, _, rfl, ?_⟩
    obtain ⟨p', pa, pb, pc, n, r, l, f, op', ix, e, lk, W, k1, k2, k3⟩ := h
    cases e
    exact ⟨p, pa, pb, pc, n, r, l, f, op, 0, rfl, lk, W, k1, k2, fun k lo hi x1 x2 x3 x4 x5 => (k3 k lo hi x1 x2 x3 x4 x5).2⟩
/-! ### copy -/
def spCop (C : Addr) : Sp := fun vs H Q _ => ∃ (p pa pb pc : Addr) (n : Nat) (r l : List Int) (f : List Bool), vs = [.ref p] ∧ n ≤ 60 ∧ LkAt C H p pa pb pc n r l f ∧ NewLk C H n r l f Q
theorem sc_cop : FnScope ["self"] ["self"] (defScope st_cop) := ⟨rfl, rfl, rfl, by decide +kernel, rfl, by decide +kernel, by decide +kernel⟩
theorem ok_cop (T : Txt K mg a) : Ok PW w K mg base CX0 5 a.cop ["self"] (spCop a.L) := by
  refine ok_of T.d_cop fun fd F => F.ok sc_cop (fun vs H Q E h => ?_) (fun cdv A outer s H vs Q E hr h => ?_)
  · obtain ⟨p, pa, pb, pc, n, r, l, f, rfl, _⟩ := h
    rfl
  · obtain ⟨p, pa, pb, pc, n, r, l, f, rfl, hn, lk, k⟩ := h
    obtain ⟨dx, hp⟩ := lk.ob
    refine ⟨_, pss_one (ps_ret (pe_sm (pe_glob (v := .ref a.L) rfl T.g_L rfl) T.crL T.m_bui (ok_bui T) hr pass0 (pa_cons (pe_fld (pv 0) rfl) (pa_cons (pe_fld (pv 0) rfl) (pa_cons (pe_fld (pv 0) rfl) (pa_cons (pe_fld (pv 0) rfl) pa_nil)))))), ?_⟩
    refine ⟨rfl, _, rfl, p, a.L, dx, _, _, rfl, hp, T.clL, T.nL_size, rfl, _, rfl, p, a.L, dx, _, _, rfl, hp, T.clL, T.nL_lefts, rfl, _, rfl, p, a.L, dx, _, _, rfl, hp, T.clL, T.nL_rights, rfl,
      _, rfl, p, a.L, dx, _, _, rfl, hp, T.clL, T.nL_flags, rfl, n, pa, pb, pc, r, l, f, rfl, hn, lk.la, lk.rb, lk.fc, k⟩
/-! ### the dump -/
theorem cut_init {xs : List V} {y : V} : cutV (xs ++ [y]) none (some (-1)) = xs := by
  unfold cutV
  have e1 : HT.sIx (xs ++ [y]).length 0 none = 0 := rfl
  have e2 : HT.sIx (xs ++ [y]).length (xs ++ [y]).length (some (-1)) = xs.length := by
    simp only [HT.sIx, List.length_append, List.length_cons, List.length_nil]
    rw [if_pos (by decide)]
    omega
  rw [e1, e2]
  simp
theorem cut_tail {xs : List V} (h : 1 ≤ xs.length) : cutV xs (some 1) none = xs.drop 1 := by
  unfold cutV
  have e1 : HT.sIx xs.length 0 (some 1) = 1 := by
    simp only [HT.sIx]
    rw [if_neg (by decide)]
    show min 1 xs.length = 1
    omega
  have e2 : HT.sIx xs.length xs.length none = xs.length := rfl
  rw [e1, e2]
  exact List.take_of_length_le (by simp)
theorem cut_mid {xs : List V} {n : Nat} (h : xs.length = n + 2) : (cutV xs (some 1) (some (-1))).length = n := by
  unfold cutV
  have e1 : HT.sIx xs.length 0 (some 1) = 1 := by
    simp only [HT.sIx]
    rw [if_neg (by decide)]
    show min 1 xs.length = 1
    omega
  have e2 : HT.sIx xs.length xs.length (some (-1)) = n + 1 := by
    simp only [HT.sIx]
    rw [if_pos (by decide), h]
    omega
  rw [e1, e2]
  simp
  omega
theorem gone_next {i : Nat} {f : List Bool} : gone (i + 1) f = gone i f ++ (if f.getD (i + 1) false = true then [(i : Int) + 1] else []) := by
  unfold gone
  rw [List.range_succ, List.filter_append, List.map_append]
  congr 1
  by_cases h : f.getD (i + 1) false = true
  · rw [if_pos h]
    simp only [List.filter_cons, List.filter_nil, h, if_true]
    rfl
  · rw [if_neg h]
    simp only [List.filter_cons, List.filter_nil, h]
    rfl
theorem num_log {i : Int} (h0 : 0 ≤ i) (h1 : i < 100) : i.natAbs.log2 < 1920 := by
  have : i.natAbs < 100 := by omega
  exact Nat.lt_of_le_of_lt (Nat.log2_le_self _) (by omega)
def spDpa (C : Addr) : Sp := fun vs H Q _ => ∃ (p pa pb pc : Addr) (n : Nat) (r l : List Int) (f : List Bool), vs = [.ref p] ∧ LkAt C H p pa pb pc n r l f ∧ Wld n r l f ∧
  ∀ H' q, Same H H' → H q = none → H' q = some (.lst [.str (ptx r), .str (ptx (l.drop 1)), .str (gtx n f)]) → Q (.ref q) H'
theorem sc_dpa : FnScope ["self", "rights", "lefts", "outs", "link", "node"] ["self"] (defScope st_dpa) := ⟨rfl, rfl, rfl, by decide +kernel, rfl, by decide +kernel, by decide +kernel⟩
theorem ok_dpa (T : Txt K mg a) : Ok PW w K mg base CX0 1 a.dpa ["self"] (spDpa a.L) := by
  refine ok_of T.d_dpa fun fd F => F.ok sc_dpa (fun vs H Q E h => ?_) (fun cdv A outer s H vs Q E hr h => ?_)
  · obtain ⟨p, pa, pb, pc, n, r, l, f, rfl, _⟩ := h
    rfl
  · obtain ⟨p, pa, pb, pc, n, r, l, f, rfl, lk, W, k⟩ := h
    obtain ⟨dx, hp⟩ := lk.ob
    refine ⟨_, pss_cons (ps_setLc (i := 1) (own := [("link", 4)]) (g := gName 4) (tt := tYes) rfl sc_dpa.nd rfl rfl (sw_true rfl rfl rfl (by decide +kernel)) (pi_list (pe_slice sl_list (pe_fld (pv 0) rfl) po_none (po_some (pe_un un_neg pe_int))))
        (blkOk_by (N := ["self", "rights", "lefts", "outs", "link", "node"]) (sc := defScope st_dpa) (by decide +kernel)) (fun _ _ _ _ _ => pg_name (i := 4) sc_dpa.nd rfl (Or.inl rfl)) (fun _ _ _ _ _ => pts_nil)
        (fun _ _ _ _ _ => pe_callTy call_str_int (by rfl) T.n_str (by decide +kernel) (pa_cons (pv 4) pa_nil)))
      (pss_cons (ps_setLc (i := 2) (own := [("link", 4)]) (g := gName 4) (tt := tYes) rfl sc_dpa.nd rfl rfl (sw_true rfl rfl rfl (by decide +kernel)) (pi_list (pe_slice sl_list (pe_fld (pv 0) rfl) (po_some pe_int) po_none))
        (blkOk_by (N := ["self", "rights", "lefts", "outs", "link", "node"]) (sc := defScope st_dpa) (by decide +kernel)) (fun _ _ _ _ _ => pg_name (i := 4) sc_dpa.nd rfl (Or.inl rfl)) (fun _ _ _ _ _ => pts_nil)
        (fun _ _ _ _ _ => pe_callTy call_str_int (by rfl) T.n_str (by decide +kernel) (pa_cons (pv 4) pa_nil)))
      (pss_cons (ps_setLc (i := 3) (own := [("node", 5)]) (g := gName 5) (tt := tB (tOp (rIxL K) (tFld K (tVar 0) "_flags") (tVar 5))) rfl sc_dpa.nd rfl rfl (sw_true rfl rfl rfl (by decide +kernel)) (pi_range2 (by rfl) T.n_range (pa_cons pe_int (pa_cons (pe_op op_add (pe_fld (pv 0) rfl) pe_int) pa_nil)))
        (blkOk_by (N := ["self", "rights", "lefts", "outs", "link", "node"]) (sc := defScope st_dpa) (by decide +kernel)) (fun _ _ _ _ _ => pg_name (i := 5) sc_dpa.nd rfl (Or.inl rfl)) (fun _ _ _ _ _ => pts_one (pt_val (pe_ix ix_list (pe_fld (pv 0) rfl) (pv 5) (fun _ _ => rfl))))
        (fun _ _ _ _ _ => pe_callTy call_str_int (by rfl) T.n_str (by decide +kernel) (pa_cons (pv 5) pa_nil)))
      (pss_one (ps_ret (pe_lst (pa_cons (pe_join pe_str (pv 1)) (pa_cons (pe_join pe_str (pv 2)) (pa_cons (pe_ifExp (pt_cmpR op_gt (pe_callB call_len_seq (by rfl) T.n_len PySem.boot_len (pa_cons (pv 3) pa_nil)) pe_int (nomark _))
        (pe_join pe_str (pv 3)) pe_str) pa_nil)))))))), ?_⟩
    have lr := W.lr
    have ll := W.ll
    have lf := W.lf
    have hn := W.hn
    have hsp : ((" " : Str)).length = 1 := by decide +kernel
    -- the right links
    refine ⟨_, rfl, p, a.L, dx, _, _, rfl, hp, T.clL, T.nL_rights, rfl, _, rfl, _, rfl, pb, _, rfl, .inl (.inl lk.rb), fun q0 hq0 => ?_⟩
    rw [List.map_append, show [(n : Int) + 2].map V.int = [V.int ((n : Int) + 2)] from rfl, cut_init]
    refine ⟨q0, rfl, ⟨_, .inl (.inl upd_same)⟩, fun D1 hD1 => ?_⟩
    obtain ⟨ne0, hD1'⟩ := upd_none hD1
    refine lc_list (xs := r.map V.int) (fun i H1 => H1 = upd (upd H q0 (.lst (r.map V.int))) D1 (.lst (((r.take i).map num).map V.str))) (by simp) ?_ ?_ ?_
    · rintro i H1 _ rfl
      exact .inl (.inl (by rw [upd_ne (Ne.symm ne0)]; exact upd_same))
    · rintro i x H1 hx rfl
      obtain ⟨z, hz1, rfl⟩ := map_get hx
      have hb := W.rs z (List.mem_of_getElem? hz1)
      refine ⟨rfl, _, rfl, z, rfl, num_log hb.1 hb.2, _, upd_same, ?_, ?_⟩
      · rw [List.length_map, List.length_map, List.length_take]
        exact small1000 (by omega)
      · rw [upd_upd, take_next hz1]
        simp [num]
    rintro H1 rfl
    rw [show (r.map V.int).length = r.length from List.length_map _, List.take_length]
    have s1 : Same H (upd (upd H q0 (.lst (r.map V.int))) D1 (.lst ((r.map num).map V.str))) := same_upd (same_upd (Same.refl _) hq0) hD1
    have d1 : (upd (upd H q0 (.lst (r.map V.int))) D1 (.lst ((r.map num).map V.str))) D1 = some (.lst ((r.map num).map V.str)) := upd_same
    generalize upd (upd H q0 (.lst (r.map V.int))) D1 (.lst ((r.map num).map V.str)) = H1 at *
    -- the left links
    refine ⟨_, rfl, p, a.L, dx, _, _, rfl, s1 _ _ hp, T.clL, T.nL_lefts, rfl, _, rfl, pa, _, rfl, .inl (.inl (s1 _ _ lk.la)), fun q1 hq1 => ?_⟩
    rw [cut_tail (by rw [List.length_map]; omega), ← List.map_drop]
    refine ⟨q1, rfl, ⟨_, .inl (.inl upd_same)⟩, fun D2 hD2 => ?_⟩
    obtain ⟨ne1, hD2'⟩ := upd_none hD2
    refine lc_list (xs := (l.drop 1).map V.int) (fun i H2 => H2 = upd (upd H1 q1 (.lst ((l.drop 1).map V.int))) D2 (.lst ((((l.drop 1).take i).map num).map V.str))) (by simp) ?_ ?_ ?_
    · rintro i H2 _ rfl
      exact .inl (.inl (by rw [upd_ne (Ne.symm ne1)]; exact upd_same))
    · rintro i x H2 hx rfl
      obtain ⟨z, hz1, rfl⟩ := map_get hx
      have hb := W.ls z (List.mem_of_getElem? hz1)
      refine ⟨rfl, _, rfl, z, rfl, num_log hb.1 hb.2, _, upd_same, ?_, ?_⟩
      · rw [List.length_map, List.length_map, List.length_take, List.length_drop]
        exact small1000 (by omega)
      · rw [upd_upd, take_next hz1]
        simp [num]
    rintro H2 rfl
    rw [show ((l.drop 1).map V.int).length = (l.drop 1).length from List.length_map _, List.take_length]
    have s2 : Same H1 (upd (upd H1 q1 (.lst ((l.drop 1).map V.int))) D2 (.lst (((l.drop 1).map num).map V.str))) := same_upd (same_upd (Same.refl _) hq1) hD2
    have d2 : (upd (upd H1 q1 (.lst ((l.drop 1).map V.int))) D2 (.lst (((l.drop 1).map num).map V.str))) D2 = some (.lst (((l.drop 1).map num).map V.str)) := upd_same
    generalize upd (upd H1 q1 (.lst ((l.drop 1).map V.int))) D2 (.lst (((l.drop 1).map num).map V.str)) = H2 at *
    -- the nodes that are out
    have s12 := s1.trans s2
    refine ⟨_, rfl, p, a.L, dx, _, _, rfl, s12 _ _ hp, T.clL, T.nL_size, rfl, _, _, rfl, rfl, 1, (n : Int) + 1, rfl, ⟨by decide, by decide, by omega, by omega⟩, fun D3 hD3 => ?_⟩
    refine lc_range (lo := 1) (n := ((n : Int) + 1 - 1).toNat) (fun i H3 => H3 = upd H2 D3 (.lst (((gone i f).map num).map V.str))) (by simp [gone]) ?_ ?_
    · rintro i H3 hi rfl
      have hi' : i < n := by omega
      have s3 : Same H (upd H2 D3 (.lst (((gone i f).map num).map V.str))) := s12.trans (same_upd (Same.refl _) hD3)
      obtain ⟨x, hx⟩ := get_some (l := f) (i := i + 1) (by omega)
      have gx : f.getD (i + 1) false = x := by rw [List.getD_eq_getElem?_getD, hx]; rfl
      have ei : (1 : Int) + (i : Int) = ((i + 1 : Nat) : Int) := by omega
      rw [ei]
      refine ⟨rfl, _, rfl, p, a.L, dx, _, _, rfl, s3 _ _ hp, T.clL, T.nL_flags, rfl, _, rfl, pc, _, _, _, rfl, rfl, .inl (.inl (s3 _ _ lk.fc)), at_map hx, x, rfl, ?_⟩
      have gl := gone_len (n := i) (f := f)
      cases x with
      | true =>
        refine iteT ⟨_, rfl, _, rfl, num_log (by omega) (by omega), _, upd_same, ?_, ?_⟩
        · rw [List.length_map, List.length_map]
          exact small1000 (by omega)
        · rw [upd_upd, gone_next, if_pos gx]
          simp [num]
      | false =>
        refine iteF ?_
        rw [gone_next, if_neg (by rw [gx]; simp), List.append_nil]
    rintro H3 rfl
    rw [show ((n : Int) + 1 - 1).toNat = n from by omega]
    have s3 : Same H2 (upd H2 D3 (.lst (((gone n f).map num).map V.str))) := same_upd (Same.refl _) hD3
    have d3 : (upd H2 D3 (.lst (((gone n f).map num).map V.str))) D3 = some (.lst (((gone n f).map num).map V.str)) := upd_same
    generalize upd H2 D3 (.lst (((gone n f).map num).map V.str)) = H3 at *
    have d1 := s3 _ _ (s2 _ _ d1)
    have d2 := s3 _ _ d2
    have gl := gone_len (n := n) (f := f)
    refine ⟨⟨_, rfl⟩, _, rfl, _, D1, r.map num, rfl, rfl, .inl (.inl (.inl d1)), ?_, ?_⟩
    · have := num_lens W.rs
      rw [hsp, List.length_map]
      omega
    refine ⟨⟨_, rfl⟩, _, rfl, _, D2, (l.drop 1).map num, rfl, rfl, .inl (.inl (.inl d2)), ?_, ?_⟩
    · have := num_lens W.ls
      rw [List.length_drop] at this
      rw [hsp, List.length_map, List.length_drop]
      omega
    refine ⟨_, rfl, D3, _, rfl, .inl (.inl (.inl d3)), _, _, rfl, rfl, _, rfl, ?_⟩
    have last : ∀ q, H3 q = none → Q (.ref q) (upd H3 q (.lst [.str (ptx r), .str (ptx (l.drop 1)), .str (gtx n f)])) := fun q hq =>
      k _ q (same_upd (s12.trans s3) hq) ((s12.trans s3).free hq) upd_same
    by_cases hg : gone n f = []
    · rw [show gtx n f = nonE from if_pos hg] at last
      rw [hg]
      exact iteF ⟨(by show 3 ≤ sizeLine; decide), last⟩
    · rw [show gtx n f = ptx (gone n f) from if_neg hg] at last
      rw [decide_eq_true (by rw [List.length_map, List.length_map]; have := List.length_pos_iff.mpr hg; omega)]
      refine iteT ⟨⟨_, rfl⟩, _, rfl, _, D3, (gone n f).map num, rfl, rfl, .inl (.inl (.inl d3)), ?_, (by show 3 ≤ sizeLine; decide), last⟩
      have := num_lens (gone_small (n := n) (f := f) hn)
      rw [hsp, List.length_map]
      omega
def spDum (C : Addr) : Sp := fun vs H Q _ => ∃ (p pa pb pc : Addr) (n : Nat) (r l : List Int) (f : List Bool), vs = [.ref p] ∧ LkAt C H p pa pb pc n r l f ∧ Wld n r l f ∧ ∀ H', Same H H' → Q (.str (dmp n r l f)) H'
theorem sc_dum : FnScope ["self"] ["self"] (defScope st_dum) := ⟨rfl, rfl, rfl, by decide +kernel, rfl, by decide +kernel, by decide +kernel⟩
theorem sc_sst : FnScope ["self"] ["self"] (defScope st_sst) := ⟨rfl, rfl, rfl, by decide +kernel, rfl, by decide +kernel, by decide +kernel⟩
theorem dum_len {n : Nat} {r l : List Int} {f : List Bool} (W : Wld n r l f) : (([ptx r, ptx (l.drop 1), gtx n f] : List Str).map (·.length)).sum + ([ptx r, ptx (l.drop 1), gtx n f] : List Str).length * ((" | " : Str)).length ≤ 16777216 := by
  have h1 := ptx_len W.rs
  have h2 := ptx_len W.ls
  have h3 := gtx_len (f := f) W.hn
  have h4 := W.lr
  have h5 : (l.drop 1).length = n + 1 := by rw [List.length_drop, W.ll]; omega
  have h6 := W.hn
  have h7 : ((" | " : Str)).length = 3 := by decide +kernel
  rw [h7]
  simp only [List.map_cons, List.map_nil, List.sum_cons, List.sum_nil, List.length_cons, List.length_nil]
  omega
theorem ok_dum (T : Txt K mg a) : Ok PW w K mg base CX0 2 a.dum ["self"] (spDum a.L) := by
  refine ok_of T.d_dum fun fd F => F.ok sc_dum (fun vs H Q E h => ?_) (fun cdv A outer s H vs Q E hr h => ?_)
  · obtain ⟨p, pa, pb, pc, n, r, l, f, rfl, _⟩ := h
    rfl
  · obtain ⟨p, pa, pb, pc, n, r, l, f, rfl, lk, W, k⟩ := h
    obtain ⟨dx, hp⟩ := lk.ob
    refine ⟨_, pss_one (ps_ret (pe_join pe_str (pe_me0 (pv 0) T.clL T.m_dpa (ok_dpa T) hr pass0))), ?_⟩
    refine ⟨⟨_, rfl⟩, _, rfl, p, dx, _, rfl, hp, rfl, p, pa, pb, pc, n, r, l, f, rfl, lk, W, fun H' q sm nq hq => ?_⟩
    exact ⟨_, q, [ptx r, ptx (l.drop 1), gtx n f], rfl, rfl, .inl (.inl (.inl hq)), dum_len W, k _ sm⟩
theorem ok_sst (T : Txt K mg a) : Ok PW w K mg base CX0 2 a.sst ["self"] (spDum a.L) := by
  refine ok_of T.d_sst fun fd F => F.ok sc_sst (fun vs H Q E h => ?_) (fun cdv A outer s H vs Q E hr h => ?_)
  · obtain ⟨p, pa, pb, pc, n, r, l, f, rfl, _⟩ := h
    rfl
  · obtain ⟨p, pa, pb, pc, n, r, l, f, rfl, lk, W, k⟩ := h
    obtain ⟨dx, hp⟩ := lk.ob
    refine ⟨_, pss_one (ps_ret (pe_join pe_str (pe_me0 (pv 0) T.clL T.m_dpa (ok_dpa T) hr pass0))), ?_⟩
    refine ⟨⟨_, rfl⟩, _, rfl, p, dx, _, rfl, hp, rfl, p, pa, pb, pc, n, r, l, f, rfl, lk, W, fun H' q sm nq hq => ?_⟩
    exact ⟨_, q, [ptx r, ptx (l.drop 1), gtx n f], rfl, rfl, .inl (.inl (.inl hq)), dum_len W, k _ sm⟩
def spSle (C : Addr) : Sp := fun vs H Q _ => ∃ (p pa pb pc : Addr) (n : Nat) (r l : List Int) (f : List Bool), vs = [.ref p] ∧ LkAt C H p pa pb pc n r l f ∧ f.length = n + 2 ∧ ∀ H', Same H H' → Q (.int n) H'
theorem sc_sle : FnScope ["self"] ["self"] (defScope st_sle) := ⟨rfl, rfl, rfl, by decide +kernel, rfl, by decide +kernel, by decide +kernel⟩
theorem ok_sle (T : Txt K mg a) : Ok PW w K mg base CX0 1 a.sle ["self"] (spSle a.L) := by
  refine ok_of T.d_sle fun fd F => F.ok sc_sle (fun vs H Q E h => ?_) (fun cdv A outer s H vs Q E hr h => ?_)
  · obtain ⟨p, pa, pb, pc, n, r, l, f, rfl, _⟩ := h
    rfl
  · obtain ⟨p, pa, pb, pc, n, r, l, f, rfl, lk, lf, k⟩ := h
    obtain ⟨dx, hp⟩ := lk.ob
    refine ⟨_, pss_one (ps_ret (pe_callB call_len_seq (by rfl) T.n_len PySem.boot_len (pa_cons (pe_slice sl_list (pe_fld (pv 0) rfl) (po_some pe_int) (po_some (pe_un un_neg pe_int))) pa_nil))), ?_⟩
    refine ⟨_, rfl, p, a.L, dx, _, _, rfl, hp, T.clL, T.nL_flags, rfl, _, rfl, _, rfl, _, rfl, pc, _, rfl, .inl (.inl lk.fc), fun q hq => ?_⟩
    refine ⟨q, _, rfl, .inl (.inl (.inl upd_same)), ?_⟩
    rw [cut_mid (n := n) (by rw [List.length_map]; exact lf)]
    exact k _ (same_upd (Same.refl _) hq)
/-! ### == -/
theorem eqv_ints : ∀ l m : List Int, PyData.eqvAll (l.map PyData.int) (m.map PyData.int) = decide (l = m)
  | [], [] => by simp [PyData.eqvAll]
  | [], _ :: _ => by simp [PyData.eqvAll]
  | _ :: _, [] => by simp [PyData.eqvAll]
  | x :: l, y :: m => by
    simp only [List.map_cons, PyData.eqvAll, PyData.eqv, eqv_ints l m]
    by_cases h : x = y <;> by_cases h' : l = m <;> simp [h, h']
theorem eqv_bls : ∀ l m : List Bool, PyData.eqvAll (l.map PyData.bool) (m.map PyData.bool) = decide (l = m)
  | [], [] => by simp [PyData.eqvAll]
  | [], _ :: _ => by simp [PyData.eqvAll]
  | _ :: _, [] => by simp [PyData.eqvAll]
  | x :: l, y :: m => by
    simp only [List.map_cons, PyData.eqvAll, PyData.eqv, eqv_bls l m]
    by_cases h' : l = m <;> cases x <;> cases y <;> simp [h']
theorem can_bls : ∀ l : List Bool, PyData.canLayAll0 (l.map PyData.bool) = true
  | [] => rfl
  | _ :: r => by simp [PyData.canLayAll0, PyData.canLay0, can_bls r]
theorem dep_bls : ∀ l : List Bool, PyData.depthAll (l.map PyData.bool) = 0
  | [] => rfl
  | _ :: r => by simp [PyData.depthAll, PyData.depth, dep_bls r]
theorem sh_bls (l : List Bool) : SeqAt.shaped (.list (l.map PyData.bool)) = true := by
  simp [SeqAt.shaped, PyData.canLay0, PyData.depth, can_bls, dep_bls]
theorem dp_ints {H : Hp} : ∀ l : List Int, DpAll K H (l.map V.int) (l.map PyData.int)
  | [] => .nil
  | _ :: l => .cons (.int _) (dp_ints l)
theorem dp_bls {H : Hp} : ∀ l : List Bool, DpAll K H (l.map V.bl) (l.map PyData.bool)
  | [] => .nil
  | _ :: l => .cons (.bl _) (dp_bls l)
theorem rd_ints {H : Hp} {p q : Addr} {l m : List Int} {Q : VK} (hp : H p = some (.lst (l.map V.int))) (hq : H q = some (.lst (m.map V.int))) (k : Q (.bl (decide (l = m))) H) : rEqD K (.ref p) (.ref q) H Q := by
  refine ⟨_, _, .lst (.inl (.inl hp)) (dp_ints l), .lst (.inl (.inl hq)) (dp_ints m), PySem.W.ke_shaped_ints l, PySem.W.ke_shaped_ints m, ?_⟩
  rw [PyData.eqv, eqv_ints]
  exact k
theorem rd_bls {H : Hp} {p q : Addr} {l m : List Bool} {Q : VK} (hp : H p = some (.lst (l.map V.bl))) (hq : H q = some (.lst (m.map V.bl))) (k : Q (.bl (decide (l = m))) H) : rEqD K (.ref p) (.ref q) H Q := by
  refine ⟨_, _, .lst (.inl (.inl hp)) (dp_bls l), .lst (.inl (.inl hq)) (dp_bls m), sh_bls l, sh_bls m, ?_⟩
  rw [PyData.eqv, eqv_bls]
  exact k
end
end LL
namespace LL
open PySem PySem.Spec PyProof.Rows L2 TL
section
variable {w : World} {K : PySem.W.Frag} {mg : Str → Option Value} {base : Heap} {a : Ad}
/-! ### == of Links -/
def EqTo (C : Addr) (H : Hp) (p : Addr) (y : V) (c : Bool) : Prop := ∃ (pa pb pc : Addr) (n : Nat) (r l : List Int) (f : List Bool), LkAt C H p pa pb pc n r l f ∧
  ((∃ (q qa qb qc : Addr) (m : Nat) (r' l' : List Int) (g : List Bool), y = .ref q ∧ LkAt C H q qa qb qc m r' l' g ∧ c = decide (r ++ [(n : Int) + 2] = r' ++ [(m : Int) + 2] ∧ l = l' ∧ f = g)) ∨ (∃ i, y = .int i ∧ c = false) ∨ (∃ z, y = .str z ∧ c = false))
def spSeq (C : Addr) : Sp := fun vs H Q _ => ∃ (p : Addr) (y : V) (c : Bool), vs = [.ref p, y] ∧ EqTo C H p y c ∧ Q (.bl c) H
theorem sc_seq : FnScope ["self", "other"] ["self", "other"] (defScope st_seq) := ⟨rfl, rfl, rfl, by decide +kernel, rfl, by decide +kernel, by decide +kernel⟩
theorem ok_seq (T : Txt K mg a) : Ok PW w K mg base CX0 1 a.seq ["self", "other"] (spSeq a.L) := by
  refine ok_of T.d_seq fun fd F => F.ok sc_seq (fun vs H Q E h => ?_) (fun cdv A outer s H vs Q E hr h => ?_)
  · obtain ⟨p, y, c, rfl, _⟩ := h
    rfl
  · obtain ⟨p, y, c, rfl, ⟨pa, pb, pc, n, r, l, f, lk, cs⟩, k⟩ := h
    obtain ⟨dx, hp⟩ := lk.ob
    refine ⟨_, pss_one (ps_ret (pe_and (pe_callB call_isi (by rfl) T.n_isinstance (by decide +kernel) (pa_cons (pv 1) (pa_cons (pe_glob (v := .ref a.L) rfl T.g_L rfl) pa_nil)))
      (pe_and (pe_cmpR (op_eqD hr.units) (pe_fld (pv 0) rfl) (pe_fld (pv 1) rfl) (nomark _))
      (pe_and (pe_cmpR (op_eqD hr.units) (pe_fld (pv 0) rfl) (pe_fld (pv 1) rfl) (nomark _))
      (pe_one (pe_cmpR (op_eqD hr.units) (pe_fld (pv 0) rfl) (pe_fld (pv 1) rfl) (nomark _))))))), ?_⟩
    rcases cs with ⟨q, qa, qb, qc, m, r', l', g, rfl, lq, rfl⟩ | ⟨i, rfl, rfl⟩ | ⟨z, rfl, rfl⟩
    · obtain ⟨dy, hq⟩ := lq.ob
      refine ⟨_, rfl, _, _, _, _, _, rfl, .own a.L, .base (.ins hq T.clL T.tcl T.tsp T.ttk T.tmo), T.kLL, _, rfl, iteT ?_⟩
      refine ⟨_, rfl, p, a.L, dx, _, _, rfl, hp, T.clL, T.nL_rights, rfl, _, rfl, q, a.L, dy, _, _, rfl, hq, T.clL, T.nL_rights, rfl, rd_ints lk.rb lq.rb ⟨_, rfl, ?_⟩⟩
      by_cases e1 : r ++ [(n : Int) + 2] = r' ++ [(m : Int) + 2]
      · rw [decide_eq_true e1]
        refine iteT ⟨_, rfl, p, a.L, dx, _, _, rfl, hp, T.clL, T.nL_lefts, rfl, _, rfl, q, a.L, dy, _, _, rfl, hq, T.clL, T.nL_lefts, rfl, rd_ints lk.la lq.la ⟨_, rfl, ?_⟩⟩
        by_cases e2 : l = l'
        · rw [decide_eq_true e2]
          refine iteT ⟨_, rfl, p, a.L, dx, _, _, rfl, hp, T.clL, T.nL_flags, rfl, _, rfl, q, a.L, dy, _, _, rfl, hq, T.clL, T.nL_flags, rfl, rd_bls lk.fc lq.fc ?_⟩
          rw [show decide (r ++ [(n : Int) + 2] = r' ++ [(m : Int) + 2] ∧ l = l' ∧ f = g) = decide (f = g) from by simp [e1, e2]] at k
          exact k
        · rw [decide_eq_false e2]
          rw [decide_eq_false (fun z => e2 z.2.1)] at k
          exact iteF k
      · rw [decide_eq_false e1]
        rw [decide_eq_false (fun z => e1 z.1)] at k
        exact iteF k
    · exact ⟨_, rfl, _, _, _, _, _, rfl, .own a.L, .base (.int i), T.kiL, _, rfl, iteF k⟩
    · exact ⟨_, rfl, _, _, _, _, _, rfl, .own a.L, .base (.str z), T.ksL, _, rfl, iteF k⟩
/-! ### the box -/
structure BoxAt (H : Hp) (b s : Addr) : Prop where
  ex : ∃ (ns : List Int) (i v2 v3 v4 : Int), H b = some (.lst [.ref s, .int i, .int v2, .int v3, .int v4]) ∧ H s = some (.lst (ns.map V.int)) ∧ 0 ≤ i
def But (b : Addr) (H H' : Hp) : Prop := ∀ q o, q ≠ b → H q = some o → H' q = some o
theorem But.refl (b : Addr) (H : Hp) : But b H H := fun _ _ _ h => h
theorem But.trans {b : Addr} {H H1 H2 : Hp} (x : But b H H1) (y : But b H1 H2) : But b H H2 := fun q o n h => y q o n (x q o n h)
theorem Same.but {b : Addr} {H H1 : Hp} (x : Same H H1) : But b H H1 := fun q o _ h => x q o h
theorem BoxAt.same {b s : Addr} {H H1 : Hp} (x : Same H H1) (B : BoxAt H b s) : BoxAt H1 b s :=
  let ⟨ns, i, v2, v3, v4, h1, h2, h3⟩ := B.ex
  ⟨ns, i, v2, v3, v4, x _ _ h1, x _ _ h2, h3⟩
theorem BoxAt.ne {H : Hp} {b s : Addr} (B : BoxAt H b s) : s ≠ b := by
  obtain ⟨ns, i, v2, v3, v4, h1, h2, h3⟩ := B.ex
  refine ne_of h2 h1 fun z => ?_
  injection z with z
  cases ns with
  | nil => cases z
  | cons x t => injection z with z1 _; cases z1
def spBox : Sp := fun vs H Q _ => ∃ (s : Addr) (ns : List Int), vs = [.ref s] ∧ SqL K H s (ns.map V.int) ∧ ∀ H' b s', Same H H' → H b = none → BoxAt H' b s' → Q (.ref b) H'
theorem cut63 (ns : List Int) : ∃ ms : List Int, cutV (ns.map V.int) none (some 63) = ms.map V.int := by
  unfold cutV
  rw [← List.map_drop, ← List.map_take]
  exact ⟨_, rfl⟩
theorem sc_box : FnScope ["_law_script"] ["_law_script"] (defScope st_box) := ⟨rfl, rfl, rfl, by decide +kernel, rfl, by decide +kernel, by decide +kernel⟩
theorem ok_box (T : Txt K mg a) : Ok PW w K mg base CX0 1 a.box ["_law_script"] (spBox (K := K)) := by
  refine ok_of T.d_box fun fd F => F.ok sc_box (fun vs H Q E h => ?_) (fun cdv A outer s H vs Q E hr h => ?_)
  · obtain ⟨_, _, rfl, _⟩ := h
    rfl
  · obtain ⟨sc, ns, rfl, hs, k⟩ := h
    obtain ⟨ms, em⟩ := cut63 ns
    refine ⟨_, pss_one (ps_ret (pe_lst (pa_cons (pe_callTy call_list_of (by rfl) T.n_list (by decide +kernel) (pa_cons (pe_slice sl_list (pv 0) po_none (po_some pe_int)) pa_nil)) (pa_cons pe_int (pa_cons pe_int (pa_cons pe_int (pa_cons pe_int pa_nil))))))), ?_⟩
    refine ⟨_, rfl, _, rfl, sc, _, rfl, hs, fun q hq => ?_⟩
    rw [em]
    refine ⟨q, _, rfl, .inl (.inl (.inl upd_same)), fun q2 hq2 => ⟨(by show 5 ≤ sizeLine; decide), fun b hb => ?_⟩⟩
    obtain ⟨n2, hb'⟩ := upd_none hb
    refine k _ b q2 (same_upd (same_upd (same_upd (Same.refl _) hq) hq2) hb) (upd_none hb').2 ⟨ms, 0, 0, 137, 0, upd_same, ?_, by decide⟩
    rw [upd_ne (Ne.symm n2), upd_same]
def spDraw : Sp := fun vs H Q _ => ∃ (b s : Addr) (m : Int), vs = [.ref b, .int m] ∧ 0 < m ∧ m < 1073741824 ∧ BoxAt H b s ∧ ∀ d H', 0 ≤ d → d < m → BoxAt H' b s → But b H H' → Q (.int d) H'
theorem sc_draw : FnScope ["_law_box_here", "_law_many", "_law_cell", "_law_digit", "_law_mixed"] ["_law_box_here", "_law_many"] (defScope st_draw) := ⟨rfl, rfl, rfl, by decide +kernel, rfl, by decide +kernel, by decide +kernel⟩
theorem ok_draw (T : Txt K mg a) : Ok PW w K mg base CX0 1 a.draw ["_law_box_here", "_law_many"] spDraw := by
  refine ok_of T.d_draw fun fd F => F.ok sc_draw (fun vs H Q E h => ?_) (fun cdv A outer s H vs Q E hr h => ?_)
  · obtain ⟨b, s, m, rfl, _⟩ := h
    rfl
  · obtain ⟨b, s0, m, rfl, m0, m1, B, k⟩ := h
    refine ⟨_, pss_cons (ps_if (PW.pt (pw_and (pt_cmpR op_eq (pe_ix ix_list (pv 0) pe_int (fun _ _ => rfl)) pe_int (nomark _)) (pw_and1 (pt_cmpR op_lt (pe_ix ix_list (pv 0) pe_int (fun _ _ => rfl))
          (pe_callB call_len_seq (by rfl) T.n_len PySem.boot_len (pa_cons (pe_ix ix_list (pv 0) pe_int (fun _ _ => rfl)) pa_nil)) (nomark _)))))
        (pss_cons (ps_set (i := 2) sc_draw.nd rfl (.inl rfl) (pe_ix ix_list (pe_ix ix_list (pv 0) pe_int (fun _ _ => rfl)) (pe_ix ix_list (pv 0) pe_int (fun _ _ => rfl)) (fun _ _ => rfl)))
        (pss_cons (ps_asg (pe_op op_add (pe_ix ix_list (pv 0) pe_int (fun _ _ => rfl)) pe_int) (pg_sub (pv 0) pe_int set_list))
        (pss_one (ps_if (pt_cmpR op_ge (pv 2) (pe_op op_pow pe_int pe_int) (nomark _)) (pss_one (ps_asg (pv 2) (pg_sub (pv 0) pe_int set_list)))
          (pss_one (ps_asg (pe_op op_mod (pe_callTy call_int1 (by rfl) T.n_int (by decide +kernel) (pa_cons (pe_op op_add (pe_op op_add (pe_op op_mul (pe_ix ix_list (pv 0) pe_int (fun _ _ => rfl)) pe_int) (pe_op op_mul (pv 2) pe_int)) pe_int) pa_nil)) pe_int) (pg_sub (pv 0) pe_int set_list))))))) pss_nil)
      (pss_cons (ps_if (pt_cmpR op_gt (pe_ix ix_list (pv 0) pe_int (fun _ _ => rfl)) pe_int (nomark _))
        (pss_cons (ps_set (i := 3) sc_draw.nd rfl (.inl rfl) (pe_op op_mod (pe_callTy call_int1 (by rfl) T.n_int (by decide +kernel) (pa_cons (pe_ix ix_list (pv 0) pe_int (fun _ _ => rfl)) pa_nil)) (pv 1)))
        (pss_cons (ps_asg (pe_op op_fdiv (pe_ix ix_list (pv 0) pe_int (fun _ _ => rfl)) (pv 1)) (pg_sub (pv 0) pe_int set_list))
        (pss_one (ps_ret (pv 3))))) pss_nil)
      (pss_cons (ps_asg (pe_op op_add (pe_ix ix_list (pv 0) pe_int (fun _ _ => rfl)) pe_int) (pg_sub (pv 0) pe_int set_list))
      (pss_cons (ps_asg (pe_op op_mod (pe_callTy call_int1 (by rfl) T.n_int (by decide +kernel) (pa_cons (pe_op op_add (pe_op op_mul (pe_ix ix_list (pv 0) pe_int (fun _ _ => rfl)) pe_int) (pe_op op_mul (pe_ix ix_list (pv 0) pe_int (fun _ _ => rfl)) pe_int)) pa_nil)) pe_int) (pg_sub (pv 0) pe_int set_list))
      (pss_cons (ps_set (i := 4) sc_draw.nd rfl (.inl rfl) (pe_op op_mod (pe_callTy call_int1 (by rfl) T.n_int (by decide +kernel) (pa_cons (pe_op op_add (pe_op op_add (pe_op op_mul (pe_op op_fdiv (pe_ix ix_list (pv 0) pe_int (fun _ _ => rfl)) pe_int) pe_int)
          (pe_ix ix_list (pv 0) pe_int (fun _ _ => rfl))) (pe_ix ix_list (pv 0) pe_int (fun _ _ => rfl))) pa_nil)) pe_int))
      (pss_one (ps_ret (pe_op op_mod (pe_callTy call_int1 (by rfl) T.n_int (by decide +kernel) (pa_cons (pe_op op_fdiv (pv 4) pe_int) pa_nil)) (pv 1)))))))), ?_⟩
    change tSeq _ ?tR _ _ _
    have tail : ∀ (y : Option V) (H1 : Hp), BoxAt H1 b s0 → But b H H1 → ?tR { nx := fun _ H' => Q .non H', rt := Q } [some (.ref b), some (.int m), y, none, none] H1 := by
      intro y H1 B1 bt
      obtain ⟨ns, i, v2, v3, v4, hb, hs, hi⟩ := B1.ex
      have nsb := B1.ne
      have box : ∀ v2' v3' v4', BoxAt (upd H1 b (.lst [.ref s0, .int i, .int v2', .int v3', .int v4'])) b s0 := fun v2' v3' v4' => ⟨ns, i, v2', v3', v4', upd_same, by rw [upd_ne nsb]; exact hs, hi⟩
      have but : ∀ o, But b H (upd H1 b o) := fun o q u hq e => by
        rw [upd_ne hq]
        exact bt q u hq e
      refine ⟨_, rfl, b, _, _, _, rfl, rfl, .inl (.inl hb), rfl, _, _, rfl, rfl, _, rfl, ?_⟩
      refine ite2 (fun _ => ?_) (fun _ => ?_)
      · refine ⟨_, rfl, b, _, _, _, rfl, rfl, .inl (.inl hb), rfl, .inl ⟨_, rfl, _, rfl, _, _, rfl, rfl, m0, ?_⟩⟩
        refine ⟨_, rfl, b, _, _, _, rfl, rfl, .inl (.inl hb), rfl, _, rfl, _, _, rfl, rfl, ⟨m0, m1⟩, _, rfl, b, _, _, 2, rfl, rfl, hb, rfl, ?_⟩
        exact ⟨_, rfl, k _ _ (Int.emod_nonneg _ (by omega)) (Int.emod_lt_of_pos _ m0) (box _ _ _) (but _)⟩
      · refine ⟨_, rfl, b, _, _, _, rfl, rfl, .inl (.inl hb), rfl, _, _, rfl, rfl, _, rfl, b, _, _, 4, rfl, rfl, hb, rfl, ?_⟩
        refine ⟨_, rfl, b, _, _, _, rfl, rfl, .inl (.inl upd_same), rfl, _, _, rfl, rfl, .inr (by decide), ?_⟩
        refine ⟨_, rfl, b, _, _, _, rfl, rfl, .inl (.inl upd_same), rfl, _, _, rfl, rfl, .inr (by decide), _, _, rfl, rfl, .inl ⟨_, rfl, _, _, rfl, rfl, (by show (0 : Int) < 2147483647; decide), ?_⟩⟩
        refine ⟨_, rfl, b, _, _, 3, rfl, rfl, upd_same, rfl, ?_⟩
        rw [upd_upd]
        refine ⟨_, rfl, b, _, _, _, rfl, rfl, .inl (.inl upd_same), rfl, _, _, rfl, rfl, ⟨by decide, by decide⟩, _, _, rfl, rfl, .inr (by decide), ?_⟩
        refine ⟨_, rfl, b, _, _, _, rfl, rfl, .inl (.inl upd_same), rfl, _, _, rfl, rfl, ?_⟩
        refine ⟨_, rfl, b, _, _, _, rfl, rfl, .inl (.inl upd_same), rfl, _, _, rfl, rfl, .inl ⟨_, rfl, _, _, rfl, rfl, (by show (0 : Int) < 2147483629; decide), ?_⟩⟩
        refine ⟨_, rfl, _, _, rfl, rfl, ⟨by decide, by decide⟩, .inl ⟨_, rfl, _, rfl, _, _, rfl, rfl, m0, ?_⟩⟩
        exact k _ _ (Int.emod_nonneg _ (by omega)) (Int.emod_lt_of_pos _ m0) (box _ _ _) (but _)
    obtain ⟨ns, i, v2, v3, v4, hb, hs, hi⟩ := B.ex
    have nsb := B.ne
    refine ⟨_, rfl, b, _, _, _, rfl, rfl, .inl (.inl hb), rfl, rfl, _, rfl, ?_⟩
    refine ite2 (fun _ => ?_) (fun _ => ?_)
    · refine ⟨_, rfl, b, _, _, _, rfl, rfl, .inl (.inl hb), rfl, _, rfl, b, _, _, _, rfl, rfl, .inl (.inl hb), rfl, s0, _, rfl, .inl (.inl (.inl hs)), _, _, rfl, rfl, _, rfl, ?_⟩
      refine ite2 (fun hlt => ?_) (fun _ => ?_)
      · have hlt' : i < ((ns.map V.int).length : Int) := of_decide_eq_true hlt
        rw [List.length_map] at hlt'
        obtain ⟨j, rfl⟩ : ∃ j : Nat, i = j := ⟨i.toNat, by omega⟩
        obtain ⟨c, hc⟩ := get_some (l := ns) (i := j) (by omega)
        refine ⟨_, rfl, b, _, _, _, rfl, rfl, .inl (.inl hb), rfl, _, rfl, b, _, _, _, rfl, rfl, .inl (.inl hb), rfl, s0, _, _, _, rfl, rfl, .inl (.inl hs), at_map hc, ?_⟩
        refine ⟨_, rfl, b, _, _, _, rfl, rfl, .inl (.inl hb), rfl, _, _, rfl, rfl, _, rfl, b, _, _, 1, rfl, rfl, hb, rfl, ?_⟩
        refine ⟨_, rfl, _, _, rfl, rfl, ⟨by decide, by decide, by decide⟩, _, _, rfl, rfl, _, rfl, ?_⟩
        have box : ∀ o' v2' v3' v4', BoxAt (upd (upd H b o') b (.lst [.ref s0, .int ((j : Int) + 1), .int v2', .int v3', .int v4'])) b s0 := fun o' v2' v3' v4' => ⟨ns, _, v2', v3', v4', upd_same, by rw [upd_ne nsb, upd_ne nsb]; exact hs, by omega⟩
        have but : ∀ o o', But b H (upd (upd H b o) b o') := fun o o' q u hq e => by
          rw [upd_ne hq, upd_ne hq]
          exact e
        refine ite2 (fun _ => ?_) (fun _ => ?_)
        · refine ⟨_, rfl, _, rfl, b, _, _, 2, rfl, rfl, upd_same, rfl, ?_⟩
          exact tail _ _ (box _ _ _ _) (but _ _)
        · refine ⟨_, rfl, b, _, _, _, rfl, rfl, .inl (.inl upd_same), rfl, _, _, rfl, rfl, .inr (by decide), _, rfl, _, _, rfl, rfl, .inr (by decide), _, _, rfl, rfl, _, _, rfl, rfl, .inl ⟨_, rfl, _, _, rfl, rfl, (by show (0 : Int) < 2147483647; decide), ?_⟩⟩
          refine ⟨_, rfl, b, _, _, 3, rfl, rfl, upd_same, rfl, ?_⟩
          exact tail _ _ (box _ _ _ _) (but _ _)
      · exact tail none H B (But.refl _ _)
    · exact tail none H B (But.refl _ _)
end
end LL
namespace LL
open PySem PySem.Spec PyProof.Rows L2 TL
section
variable {w : World} {K : PySem.W.Frag} {mg : Str → Option Value} {base : Heap} {a : Ad}
/-! ### _law_is: also called where an error is handled -/
def spLis : Sp := fun vs H Q _ => ∃ i j : Int, vs = [.int i, .int j] ∧ Q (.bl (decide (i = j))) H
theorem sc_lis : FnScope ["_law_told", "_law_due"] ["_law_told", "_law_due"] (defScope st_lis) := ⟨rfl, rfl, rfl, by decide +kernel, rfl, by decide +kernel, by decide +kernel⟩
theorem ok_lisA (T : Txt K mg a) : ∃ fd, FnA PW w K mg base CX0 1 a.lis fd ["_law_told", "_law_due"] spLis ∧ Binds K fd ["_law_told", "_law_due"] [] ∧ PySem.W.keepIn K (.ref a.lis) = true := by
  obtain ⟨fd, F, bd⟩ := T.d_lis
  refine ⟨fd, LL.Fun.okA F sc_lis (fun vs H Q E h => ?_) (fun cdv A outer s H vs Q E hr h => ?_), bd, F.kp⟩
  · obtain ⟨i, j, rfl, _⟩ := h
    rfl
  · obtain ⟨i, j, rfl, k⟩ := h
    refine ⟨_, pss_one (ps_ret (pe_and (pe_callB call_isi (by rfl) T.n_isinstance (by decide +kernel) (pa_cons (pv 0) (pa_cons (pe_bltn (v := .ty "int") (by rfl) T.n_int (by decide +kernel) rfl) pa_nil)))
      (pe_and (pe_not (pe_callB call_isi (by rfl) T.n_isinstance (by decide +kernel) (pa_cons (pv 0) (pa_cons (pe_bltn (v := .ty "bool") (by rfl) T.n_bool (by decide +kernel) rfl) pa_nil))))
      (pe_one (pe_cmpR op_eq (pv 0) (pv 1) (nomark _)))))), ?_⟩
    refine ⟨_, rfl, _, _, _, _, _, rfl, .ty _, .base (.int _), kit_ty (r := true) (by decide +kernel), _, rfl, iteT ?_⟩
    refine ⟨_, rfl, _, _, _, _, _, rfl, .ty _, .base (.int _), kit_ty (r := false) (by decide +kernel), _, rfl, _, rfl, iteT ?_⟩
    refine ⟨_, rfl, _, rfl, rfl, ?_⟩
    by_cases e : i = j
    · rw [decide_eq_true e] at k
      exact q_true (by rw [e]) k
    · rw [decide_eq_false e] at k
      exact q_false (fun z => e (V.int.inj z)) k
theorem ok_lis (T : Txt K mg a) : Ok PW w K mg base CX0 1 a.lis ["_law_told", "_law_due"] spLis := by
  obtain ⟨fd, F, bd, kp⟩ := ok_lisA (w := w) (base := base) T
  exact ⟨fd, F.ok, bd, kp⟩
/-! ### the sizes -/
def spSize : Sp := fun vs H Q _ => ∃ b s : Addr, vs = [.ref b] ∧ BoxAt H b s ∧ ∀ (n : Nat) H', n ≤ 60 → BoxAt H' b s → But b H H' → Q (.int n) H'
theorem sc_lsize : FnScope ["_law_box_here", "_law_kind"] ["_law_box_here"] (defScope st_lsize) := ⟨rfl, rfl, rfl, by decide +kernel, rfl, by decide +kernel, by decide +kernel⟩
theorem q_nat {Q : VK} {H : Hp} {z : Int} (h : 0 ≤ z) (k : ∀ n : Nat, z = n → Q (.int n) H) : Q (.int z) H := by
  have := k z.toNat (by omega)
  rw [show ((z.toNat : Nat) : Int) = z from by omega] at this
  exact this
theorem ok_lsize (T : Txt K mg a) : Ok PW w K mg base CX0 2 a.lsize ["_law_box_here"] spSize := by
  refine ok_of T.d_lsize fun fd F => F.ok sc_lsize (fun vs H Q E h => ?_) (fun cdv A outer s H vs Q E hr h => ?_)
  · obtain ⟨b, s, rfl, _⟩ := h
    rfl
  · obtain ⟨b, s0, rfl, B, k⟩ := h
    refine ⟨_, pss_cons (ps_set (i := 1) sc_lsize.nd rfl (.inl rfl) (pe_ca (ok_draw T) hr T.g_draw pass0 (pa_cons (pv 0) (pa_cons pe_int pa_nil))))
      (pss_cons (ps_if (pt_cmpR op_eq (pv 1) pe_int (nomark _)) (pss_one (ps_ret (pe_ca (ok_draw T) hr T.g_draw pass0 (pa_cons (pv 0) (pa_cons pe_int pa_nil))))) pss_nil)
      (pss_cons (ps_if (pt_cmpR op_eq (pv 1) pe_int (nomark _)) (pss_one (ps_ret (pe_ca (ok_draw T) hr T.g_draw pass0 (pa_cons (pv 0) (pa_cons pe_int pa_nil))))) pss_nil)
      (pss_one (ps_ret (pe_op op_add pe_int (pv 1)))))), ?_⟩
    refine ⟨_, rfl, b, s0, 8, rfl, by decide, by decide, B, fun d H1 d0 d1 B1 t1 => ?_⟩
    refine ⟨_, rfl, rfl, _, rfl, ?_⟩
    refine ite2 (fun _ => ?_) (fun n7 => ?_)
    · refine ⟨_, rfl, b, s0, 61, rfl, by decide, by decide, B1, fun e H2 e0 e1 B2 t2 => ?_⟩
      exact q_nat e0 fun n hn => k n H2 (by omega) B2 (t1.trans t2)
    · have n7' : d ≠ 7 := fun z => n7 (decide_eq_true (by rw [z]))
      refine ⟨_, rfl, rfl, _, rfl, ?_⟩
      refine ite2 (fun _ => ?_) (fun n6 => ?_)
      · refine ⟨_, rfl, b, s0, 3, rfl, by decide, by decide, B1, fun e H2 e0 e1 B2 t2 => ?_⟩
        exact q_nat e0 fun n hn => k n H2 (by omega) B2 (t1.trans t2)
      · refine ⟨_, rfl, _, _, rfl, rfl, ?_⟩
        exact q_nat (show 0 ≤ 1 + d by omega) fun n hn => k n H1 (by omega) B1 t1
def spFar : Sp := fun vs H Q _ => ∃ b s : Addr, vs = [.ref b] ∧ BoxAt H b s ∧ ∀ (z : Int) H', ¬(0 ≤ z ∧ z ≤ 60) → BoxAt H' b s → But b H H' → Q (.int z) H'
theorem sc_lfar : FnScope ["_law_box_here"] ["_law_box_here"] (defScope st_lfar) := ⟨rfl, rfl, rfl, by decide +kernel, rfl, by decide +kernel, by decide +kernel⟩
theorem ok_lfar (T : Txt K mg a) : Ok PW w K mg base CX0 2 a.lfar ["_law_box_here"] spFar := by
  refine ok_of T.d_lfar fun fd F => F.ok sc_lfar (fun vs H Q E h => ?_) (fun cdv A outer s H vs Q E hr h => ?_)
  · obtain ⟨b, s, rfl, _⟩ := h
    rfl
  · obtain ⟨b, s0, rfl, B, k⟩ := h
    refine ⟨_, pss_cons (ps_if (pt_cmpR op_eq (pe_ca (ok_draw T) hr T.g_draw pass0 (pa_cons (pv 0) (pa_cons pe_int pa_nil))) pe_int (nomark _))
        (pss_one (ps_ret (pe_op op_add pe_int (pe_op op_mul (pe_ca (ok_draw T) hr T.g_draw pass0 (pa_cons (pv 0) (pa_cons pe_int pa_nil))) (pe_op op_add pe_int (pe_ca (ok_draw T) hr T.g_draw pass0 (pa_cons (pv 0) (pa_cons (pe_op op_pow pe_int pe_int) pa_nil)))))))) pss_nil)
      (pss_one (ps_ret (pe_op op_sub (pe_un un_neg pe_int) (pe_op op_mul (pe_ca (ok_draw T) hr T.g_draw pass0 (pa_cons (pv 0) (pa_cons pe_int pa_nil))) (pe_op op_add pe_int (pe_ca (ok_draw T) hr T.g_draw pass0 (pa_cons (pv 0) (pa_cons (pe_op op_pow pe_int pe_int) pa_nil)))))))), ?_⟩
    refine ⟨_, rfl, b, s0, 2, rfl, by decide, by decide, B, fun d H1 d0 d1 B1 t1 => ?_⟩
    refine ⟨rfl, _, rfl, ?_⟩
    refine ite2 (fun _ => ?_) (fun _ => ?_)
    · refine ⟨_, rfl, b, s0, 4, rfl, by decide, by decide, B1, fun x H2 x0 x1 B2 t2 => ?_⟩
      refine ⟨_, rfl, _, _, rfl, rfl, ⟨by decide, by decide, by decide⟩, b, s0, _, rfl, by decide +kernel, by decide +kernel, B2, fun y H3 y0 y1 B3 t3 => ?_⟩
      refine ⟨_, _, rfl, rfl, _, _, rfl, rfl, .inl ⟨by omega, by omega⟩, _, _, rfl, rfl, ?_⟩
      refine k _ H3 (fun z => ?_) B3 ((t1.trans t2).trans t3)
      have := Int.mul_nonneg x0 (show 0 ≤ 1 + y by omega)
      omega
    · refine ⟨_, rfl, _, rfl, b, s0, 4, rfl, by decide, by decide, B1, fun x H2 x0 x1 B2 t2 => ?_⟩
      refine ⟨_, rfl, _, _, rfl, rfl, ⟨by decide, by decide, by decide⟩, b, s0, _, rfl, by decide +kernel, by decide +kernel, B2, fun y H3 y0 y1 B3 t3 => ?_⟩
      refine ⟨_, _, rfl, rfl, _, _, rfl, rfl, .inl ⟨by omega, by omega⟩, _, _, rfl, rfl, ?_⟩
      refine k _ H3 (fun z => ?_) B3 ((t1.trans t2).trans t3)
      have := Int.mul_nonneg x0 (show 0 ≤ 1 + y by omega)
      omega
/-! ### an operation -/
def spOpe : Sp := fun vs H Q _ => ∃ (b s pf : Addr) (n : Nat) (f : List Bool), vs = [.ref b, .int n, .ref pf] ∧ n ≤ 60 ∧ BoxAt H b s ∧ pf ≠ b ∧ H pf = some (.lst (f.map V.bl)) ∧ f.length = n + 2 ∧ ∀ (op : Int) H', BoxAt H' b s → But b H H' → Q (.int op) H'
theorem sc_lope : FnScope ["_law_box_here", "_law_size_here", "_law_outs", "_law_kind", "_law_beyond", "_law_node"] ["_law_box_here", "_law_size_here", "_law_outs"] (defScope st_lope) := ⟨rfl, rfl, rfl, by decide +kernel, rfl, by decide +kernel, by decide +kernel⟩
theorem ok_lope (T : Txt K mg a) : Ok PW w K mg base CX0 2 a.lope ["_law_box_here", "_law_size_here", "_law_outs"] spOpe := by
  refine ok_of T.d_lope fun fd F => F.ok sc_lope (fun vs H Q E h => ?_) (fun cdv A outer s H vs Q E hr h => ?_)
  · obtain ⟨b, s, pf, n, f, rfl, _⟩ := h
    rfl
  · obtain ⟨b, s0, pf, n, f, rfl, hn, B, nfb, hf, lf, k⟩ := h
    refine ⟨_, pss_cons (ps_set (i := 3) sc_lope.nd rfl (.inl rfl) (pe_ca (ok_draw T) hr T.g_draw pass0 (pa_cons (pv 0) (pa_cons pe_int pa_nil))))
      (pss_cons (ps_if (PW.pt (pw_or (pt_cmpR op_eq (pv 1) pe_int (nomark _)) (pw_or1 (pt_cmpR op_eq (pv 3) pe_int (nomark _)))))
        (pss_cons (ps_set (i := 4) sc_lope.nd rfl (.inl rfl) (pe_op op_add (pe_op op_add (pv 1) pe_int) (pe_ca (ok_draw T) hr T.g_draw pass0 (pa_cons (pv 0) (pa_cons (pe_op op_pow pe_int pe_int) pa_nil)))))
        (pss_one (ps_ret (pe_ix ix_list (pe_lst (pa_cons pe_int (pa_cons (pe_op op_add (pv 1) pe_int) (pa_cons (pe_op op_sub (pe_un un_neg (pv 1)) pe_int) (pa_cons (pv 4) (pa_cons (pe_un un_neg (pv 4)) pa_nil))))))
          (pe_ca (ok_draw T) hr T.g_draw pass0 (pa_cons (pv 0) (pa_cons pe_int pa_nil))) (fun _ _ => rfl))))) pss_nil)
      (pss_cons (ps_set (i := 5) sc_lope.nd rfl (.inl rfl) (pe_op op_add pe_int (pe_ca (ok_draw T) hr T.g_draw pass0 (pa_cons (pv 0) (pa_cons (pv 1) pa_nil)))))
      (pss_cons (ps_if (pt_cmpR op_eq (pe_ix ix_list (pv 2) (pv 5) (fun _ _ => rfl)) (pe_cmpR op_eq (pv 3) pe_int (nomark _)) (nomark _)) (pss_one (ps_ret (pe_un un_neg (pv 5)))) pss_nil)
      (pss_one (ps_ret (pv 5)))))), ?_⟩
    refine ⟨_, rfl, b, s0, 6, rfl, by decide, by decide, B, fun d H1 d0 d1 B1 t1 => ?_⟩
    have branch : ∀ (x : Int) (H2 : Hp), BoxAt H2 b s0 → But b H1 H2 → ∀ t, H2 t = none → ∀ d H3, 0 ≤ d → d < 5 → BoxAt H3 b s0 → But b (upd H2 t (.lst [.int 0, .int ((n : Int) + 1), .int (-(n : Int) - 1), .int x, .int (-x)])) H3 →
        ∃ p xs i v, V.ref t = .ref p ∧ V.int d = .int i ∧ SqL K H3 p xs ∧ atI xs i = some v ∧ Q v H3 := by
      intro x H2 B2 t2 t ht d H3 d0 d1 B3 t3
      obtain ⟨_, _, _, _, _, hb, _, _⟩ := B2.ex
      have htb : t ≠ b := fun z => by rw [z, hb] at ht; cases ht
      have hx := t3 t _ htb upd_same
      have fin : ∀ op, Q (.int op) H3 := fun op => k op H3 B3 ((t1.trans t2).trans (fun q o nq e => t3 q o nq ((same_upd (Same.refl _) ht) q o e)))
      have cs : d = 0 ∨ d = 1 ∨ d = 2 ∨ d = 3 ∨ d = 4 := by omega
      rcases cs with rfl | rfl | rfl | rfl | rfl
      · exact ⟨t, _, _, _, rfl, rfl, .inl (.inl hx), rfl, fin _⟩
      · exact ⟨t, _, _, _, rfl, rfl, .inl (.inl hx), rfl, fin _⟩
      · exact ⟨t, _, _, _, rfl, rfl, .inl (.inl hx), rfl, fin _⟩
      · exact ⟨t, _, _, _, rfl, rfl, .inl (.inl hx), rfl, fin _⟩
      · exact ⟨t, _, _, _, rfl, rfl, .inl (.inl hx), rfl, fin _⟩
    refine ⟨_, rfl, rfl, _, rfl, ?_⟩
    refine ite2 (fun _ => ?_) (fun n0 => ?_)
    · refine iteT ?_
      refine ⟨_, rfl, _, _, rfl, rfl, _, rfl, _, _, rfl, rfl, ⟨by decide, by decide, by decide⟩, b, s0, _, rfl, by decide +kernel, by decide +kernel, B1, fun y H2 y0 y1 B2 t2 => ?_⟩
      refine ⟨_, _, rfl, rfl, ?_⟩
      refine ⟨_, rfl, _, _, rfl, rfl, _, rfl, _, rfl, _, _, rfl, rfl, _, rfl, _, rfl, _, rfl, (by show 5 ≤ sizeLine; decide), fun t ht => ?_⟩
      refine ⟨_, rfl, b, s0, 5, rfl, by decide, by decide, ?_, fun d H3 d0 d1 B3 t3 => branch _ H2 B2 t2 t ht d H3 d0 d1 B3 t3⟩
      exact B2.same (same_upd (Same.refl _) ht)
    · have n0' : (n : Int) ≠ 0 := fun z => n0 (decide_eq_true (by rw [z]))
      refine ⟨_, rfl, rfl, _, rfl, ?_⟩
      refine ite2 (fun _ => ?_) (fun _ => ?_)
      · refine ⟨_, rfl, _, _, rfl, rfl, _, rfl, _, _, rfl, rfl, ⟨by decide, by decide, by decide⟩, b, s0, _, rfl, by decide +kernel, by decide +kernel, B1, fun y H2 y0 y1 B2 t2 => ?_⟩
        refine ⟨_, _, rfl, rfl, ?_⟩
        refine ⟨_, rfl, _, _, rfl, rfl, _, rfl, _, rfl, _, _, rfl, rfl, _, rfl, _, rfl, _, rfl, (by show 5 ≤ sizeLine; decide), fun t ht => ?_⟩
        refine ⟨_, rfl, b, s0, 5, rfl, by decide, by decide, ?_, fun d H3 d0 d1 B3 t3 => branch _ H2 B2 t2 t ht d H3 d0 d1 B3 t3⟩
        exact B2.same (same_upd (Same.refl _) ht)
      · refine ⟨_, rfl, _, rfl, b, s0, n, rfl, by omega, by omega, B1, fun y H2 y0 y1 B2 t2 => ?_⟩
        obtain ⟨v, hv⟩ : ∃ v : Nat, 1 + y = v := ⟨(1 + y).toNat, by omega⟩
        obtain ⟨x, hx⟩ := get_some (l := f) (i := v) (by omega)
        refine ⟨_, _, rfl, rfl, ?_⟩
        dsimp only
        rw [hv]
        refine ⟨_, rfl, _, rfl, pf, _, _, _, rfl, rfl, .inl (.inl (t2 _ _ nfb (t1 _ _ nfb hf))), at_map hx, _, rfl, rfl, rfl, _, rfl, ?_⟩
        refine ite2 (fun _ => ?_) (fun _ => ?_)
        · exact ⟨_, rfl, _, rfl, k _ _ B2 (t1.trans t2)⟩
        · exact ⟨_, rfl, k _ _ B2 (t1.trans t2)⟩
end
end LL
namespace LL
open PySem PySem.Spec PyProof.Rows L2 TL
section
variable {w : World} {K : PySem.W.Frag} {mg : Str → Option Value} {base : Heap} {a : Ad}
/-! ### a comprehension over a range without a test, its items known -/
theorem lc_pure {lo : Int} {n : Nat} {g : TG} {te : TE} {vs : List Nat} {σ : L2.St} {H1 : Hp} {D : Addr} {Qd : Hp → Prop} (F : Nat → V) (hD : H1 D = none) (hn : n < sizeLine)
    (hs : ∀ i H (R : VK), i < n → Same H1 H → R (F i) H → g (.int (lo + i)) (wipe σ vs) H fun σ2 H2 => wipe σ2 vs = wipe σ vs ∧ te σ2 H2 R) (hd : Qd (upd H1 D (.lst ((List.range n).map F)))) :
    ∃ W : Nat → Nat → Hp → Prop, (∃ m, W 0 m (upd H1 D (.lst []))) ∧ ∀ i m H, W i m H →
      ((Itr lo n).stop i H ∧ Qd H) ∨ ((Itr lo n).go i H ∧ ∃ Nx : Hp → Prop, (∀ H', Nx H' → ∃ m', m' < m ∧ W (i + 1) m' H') ∧ ∀ x H', (Itr lo n).yld i H x H' → g x (wipe σ vs) H' fun σ2 H2 => wipe σ2 vs = wipe σ vs ∧ tYes σ2 H2 fun b H3 =>
        if b = true then te σ2 H3 fun y H4 => ∃ acc, H4 D = some (.lst acc) ∧ acc.length < sizeLine ∧ Nx (upd H4 D (.lst (acc ++ [y]))) else Nx H3) := by
  refine lc_range (lo := lo) (n := n) (fun i H => H = upd H1 D (.lst ((List.range i).map F))) rfl ?_ ?_
  · rintro i H hi rfl
    have q := hs i _ (fun y H4 => ∃ acc, H4 D = some (.lst acc) ∧ acc.length < sizeLine ∧ (upd H4 D (.lst (acc ++ [y])) = upd H1 D (.lst ((List.range (i + 1)).map F)))) hi (same_upd (o := .lst ((List.range i).map F)) (Same.refl _) hD) ⟨_, upd_same, ?_, ?_⟩
    · have e : (fun (σ2 : L2.St) (H2 : Hp) => wipe σ2 vs = wipe σ vs ∧ tYes σ2 H2 fun b H3 => if b = true then te σ2 H3 fun y H4 => ∃ acc, H4 D = some (.lst acc) ∧ acc.length < sizeLine ∧ (upd H4 D (.lst (acc ++ [y])) = upd H1 D (.lst ((List.range (i + 1)).map F))) else H3 = upd H1 D (.lst ((List.range (i + 1)).map F))) =
          fun σ2 H2 => wipe σ2 vs = wipe σ vs ∧ te σ2 H2 fun y H4 => ∃ acc, H4 D = some (.lst acc) ∧ acc.length < sizeLine ∧ (upd H4 D (.lst (acc ++ [y])) = upd H1 D (.lst ((List.range (i + 1)).map F))) := by
        funext σ2 H2
        refine congrArg (And (wipe σ2 vs = wipe σ vs)) ?_
        unfold tYes
        exact if_pos rfl
      rw [e]
      exact q
    · rw [List.length_map, List.length_range]
      omega
    · rw [upd_upd, List.range_succ, List.map_append]
      rfl
  · rintro H rfl
    exact hd
/-! ### a standing is kept by the stores -/
theorem Wld.setR {n : Nat} {r l : List Int} {f : List Bool} (W : Wld n r l f) {v : Nat} {x : Int} (h1 : (v : Int) < x) (h2 : x ≤ n + 1) : Wld n (r.set v x) l f :=
  { W with
    lr := by rw [List.length_set]; exact W.lr
    r1 := fun u y hu => by
      by_cases e : v = u
      · subst e
        rw [List.getElem?_set_self' ] at hu
        cases q : r[v]? with
        | none => rw [q] at hu; cases hu
        | some z =>
          rw [q] at hu
          have e2 : x = y := Option.some.inj hu
          omega
      · rw [List.getElem?_set_ne e] at hu
        exact W.r1 u y hu }
theorem Wld.setL {n : Nat} {r l : List Int} {f : List Bool} (W : Wld n r l f) {v : Nat} {x : Int} (h0 : 0 ≤ x) (h1 : x ≤ v) : Wld n r (l.set (v + 1) x) f :=
  { W with
    ll := by rw [List.length_set]; exact W.ll
    l0 := by
      rw [List.getElem?_set_ne (by omega)]
      exact W.l0
    l1 := fun u y hu => by
      by_cases e : v = u
      · subst e
        rw [List.getElem?_set_self'] at hu
        cases q : l[v + 1]? with
        | none => rw [q] at hu; cases hu
        | some z =>
          rw [q] at hu
          have e2 : x = y := Option.some.inj hu
          omega
      · rw [List.getElem?_set_ne (by omega)] at hu
        exact W.l1 u y hu }
theorem Wld.setF {n : Nat} {r l : List Int} {f : List Bool} (W : Wld n r l f) {v : Nat} {x : Bool} (h1 : 1 ≤ v) (h2 : v ≤ n) : Wld n r l (f.set v x) :=
  { W with
    lf := by rw [List.length_set]; exact W.lf
    f0 := by
      rw [List.getElem?_set_ne (by omega)]
      exact W.f0
    f1 := by
      rw [List.getElem?_set_ne (by omega)]
      exact W.f1 }
/-- the lists of a standing that is being made, apart from the box -/
structure Ds (b s pr pl pf : Addr) : Prop where
  rl : pr ≠ pl
  rf : pr ≠ pf
  lf : pl ≠ pf
  rb : pr ≠ b
  lb : pl ≠ b
  fb : pf ≠ b
  rs : pr ≠ s
  ls : pl ≠ s
  fs : pf ≠ s
structure WAt (H : Hp) (b s pr pl pf : Addr) (n : Nat) : Prop where
  ex : ∃ (r l : List Int) (f : List Bool), Wld n r l f ∧ H pr = some (.lst (r.map V.int)) ∧ H pl = some (.lst (l.map V.int)) ∧ H pf = some (.lst (f.map V.bl))
  bx : BoxAt H b s
  ds : Ds b s pr pl pf
theorem WAt.but {H H' : Hp} {b s pr pl pf : Addr} {n : Nat} (A : WAt H b s pr pl pf n) (t : But b H H') (B : BoxAt H' b s) : WAt H' b s pr pl pf n :=
  let ⟨r, l, f, W, h1, h2, h3⟩ := A.ex
  ⟨⟨r, l, f, W, t _ _ A.ds.rb h1, t _ _ A.ds.lb h2, t _ _ A.ds.fb h3⟩, B, A.ds⟩
theorem BoxAt.upd {H : Hp} {b s q : Addr} {o : HO} (B : BoxAt H b s) (h1 : q ≠ b) (h2 : q ≠ s) : BoxAt (upd H q o) b s :=
  let ⟨ns, i, v2, v3, v4, e1, e2, e3⟩ := B.ex
  ⟨ns, i, v2, v3, v4, by rw [upd_ne (Ne.symm h1)]; exact e1, by rw [upd_ne (Ne.symm h2)]; exact e2, e3⟩
/-- rights[v] = x -/
theorem WAt.stR {H : Hp} {b s pr pl pf : Addr} {n v : Nat} {x : Int} (A : WAt H b s pr pl pf n) (hv : v ≤ n) (h1 : (v : Int) < x) (h2 : x ≤ n + 1) :
    ∃ xs, H pr = some (.lst xs) ∧ ixN xs.length (v : Int) = some v ∧ WAt (upd H pr (.lst (xs.set v (.int x)))) b s pr pl pf n := by
  obtain ⟨r, l, f, W, hr, hl, hf⟩ := A.ex
  have lr := W.lr
  refine ⟨_, hr, ixN_nat (by rw [List.length_map]; omega), ⟨r.set v x, l, f, W.setR h1 h2, ?_, ?_, ?_⟩, A.bx.upd A.ds.rb A.ds.rs, A.ds⟩
  · rw [upd_same, List.map_set]
  · rw [upd_ne (Ne.symm A.ds.rl)]; exact hl
  · rw [upd_ne (Ne.symm A.ds.rf)]; exact hf
/-- lefts[v + 1] = x -/
theorem WAt.stL {H : Hp} {b s pr pl pf : Addr} {n v : Nat} {x : Int} (A : WAt H b s pr pl pf n) (hv : v ≤ n) (h1 : 0 ≤ x) (h2 : x ≤ v) :
    ∃ xs, H pl = some (.lst xs) ∧ ixN xs.length ((v + 1 : Nat) : Int) = some (v + 1) ∧ WAt (upd H pl (.lst (xs.set (v + 1) (.int x)))) b s pr pl pf n := by
  obtain ⟨r, l, f, W, hr, hl, hf⟩ := A.ex
  have ll := W.ll
  refine ⟨_, hl, ixN_nat (by rw [List.length_map]; omega), ⟨r, l.set (v + 1) x, f, W.setL h1 h2, ?_, ?_, ?_⟩, A.bx.upd A.ds.lb A.ds.ls, A.ds⟩
  · rw [upd_ne A.ds.rl]; exact hr
  · rw [upd_same, List.map_set]
  · rw [upd_ne (Ne.symm A.ds.lf)]; exact hf
/-- outs[v] = x -/
theorem WAt.stF {H : Hp} {b s pr pl pf : Addr} {n v : Nat} {x : Bool} (A : WAt H b s pr pl pf n) (h1 : 1 ≤ v) (h2 : v ≤ n) :
    ∃ xs, H pf = some (.lst xs) ∧ ixN xs.length (v : Int) = some v ∧ WAt (upd H pf (.lst (xs.set v (.bl x)))) b s pr pl pf n := by
  obtain ⟨r, l, f, W, hr, hl, hf⟩ := A.ex
  have lf := W.lf
  refine ⟨_, hf, ixN_nat (by rw [List.length_map]; omega), ⟨r, l, f.set v x, W.setF h1 h2, ?_, ?_, ?_⟩, A.bx.upd A.ds.fb A.ds.fs, A.ds⟩
  · rw [upd_ne A.ds.rf]; exact hr
  · rw [upd_ne A.ds.lf]; exact hl
  · rw [upd_same, List.map_set]
/-- all but the box and the three lists is kept -/
def Kp (b pr pl pf : Addr) (H H' : Hp) : Prop := ∀ q o, q ≠ b → q ≠ pr → q ≠ pl → q ≠ pf → H q = some o → H' q = some o
theorem But.kp {b pr pl pf : Addr} {H H' : Hp} (t : But b H H') : Kp b pr pl pf H H' := fun q o h _ _ _ e => t q o h e
theorem Kp.trans {b pr pl pf : Addr} {H H1 H2 : Hp} (x : Kp b pr pl pf H H1) (y : Kp b pr pl pf H1 H2) : Kp b pr pl pf H H2 := fun q o h1 h2 h3 h4 e => y q o h1 h2 h3 h4 (x q o h1 h2 h3 h4 e)
theorem Kp.updR {b pr pl pf : Addr} {H H1 : Hp} {o : HO} (x : Kp b pr pl pf H H1) : Kp b pr pl pf H (L2.upd H1 pr o) := fun q u h1 h2 h3 h4 e => by rw [upd_ne h2]; exact x q u h1 h2 h3 h4 e
theorem Kp.updL {b pr pl pf : Addr} {H H1 : Hp} {o : HO} (x : Kp b pr pl pf H H1) : Kp b pr pl pf H (L2.upd H1 pl o) := fun q u h1 h2 h3 h4 e => by rw [upd_ne h3]; exact x q u h1 h2 h3 h4 e
theorem Kp.updF {b pr pl pf : Addr} {H H1 : Hp} {o : HO} (x : Kp b pr pl pf H H1) : Kp b pr pl pf H (L2.upd H1 pf o) := fun q u h1 h2 h3 h4 e => by rw [upd_ne h4]; exact x q u h1 h2 h3 h4 e
/-! ### bend -/
def spBen : Sp := fun vs H Q _ => ∃ (b s pr pl pf : Addr) (n : Nat), vs = [.ref b, .int n, .ref pr, .ref pl] ∧ WAt H b s pr pl pf n ∧ ∀ H', WAt H' b s pr pl pf n → Kp b pr pl pf H H' → Q .non H'
theorem sc_lben : FnScope ["_law_box_here", "_law_size_here", "_law_rights", "_law_lefts", "_law_node", "_law_kind"] ["_law_box_here", "_law_size_here", "_law_rights", "_law_lefts"] (defScope st_lben) := ⟨rfl, rfl, rfl, by decide +kernel, rfl, by decide +kernel, by decide +kernel⟩
theorem WAt.hn {H : Hp} {b s pr pl pf : Addr} {n : Nat} (A : WAt H b s pr pl pf n) : n ≤ 60 := let ⟨_, _, _, W, _⟩ := A.ex; W.hn
theorem ok_lben (T : Txt K mg a) : Ok PW w K mg base CX0 2 a.lben ["_law_box_here", "_law_size_here", "_law_rights", "_law_lefts"] spBen := by
  refine ok_of T.d_lben fun fd F => F.ok sc_lben (fun vs H Q E h => ?_) (fun cdv A outer s H vs Q E hr h => ?_)
  · obtain ⟨b, s, pr, pl, pf, n, rfl, _⟩ := h
    rfl
  · obtain ⟨b, s0, pr, pl, pf, n, rfl, A0, k⟩ := h
    have hn := A0.hn
    refine ⟨_, pss_cons (ps_set (i := 4) sc_lben.nd rfl (.inl rfl) (pe_ca (ok_draw T) hr T.g_draw pass0 (pa_cons (pv 0) (pa_cons (pe_op op_add (pv 1) pe_int) pa_nil))))
      (pss_cons (ps_set (i := 5) sc_lben.nd rfl (.inl rfl) (pe_ca (ok_draw T) hr T.g_draw pass0 (pa_cons (pv 0) (pa_cons pe_int pa_nil))))
      (pss_cons (ps_if (pt_cmpR op_eq (pv 5) pe_int (nomark _))
        (pss_one (ps_asg (pe_op op_add (pe_op op_add (pv 4) pe_int) (pe_ca (ok_draw T) hr T.g_draw pass0 (pa_cons (pv 0) (pa_cons (pe_op op_sub (pe_op op_add (pv 1) pe_int) (pv 4)) pa_nil)))) (pg_sub (pv 2) (pv 4) set_list))) pss_nil)
      (pss_one (ps_if (pt_cmpR op_eq (pv 5) pe_int (nomark _))
        (pss_one (ps_asg (pe_ca (ok_draw T) hr T.g_draw pass0 (pa_cons (pv 0) (pa_cons (pe_op op_add (pv 4) pe_int) pa_nil))) (pg_sub (pv 3) (pe_op op_add (pv 4) pe_int) set_list))) pss_nil)))), ?_⟩
    refine ⟨_, rfl, _, rfl, _, _, rfl, rfl, b, s0, _, rfl, by omega, by omega, A0.bx, fun d H1 d0 d1 B1 t1 => ?_⟩
    have A1 := A0.but t1 B1
    obtain ⟨v, rfl⟩ : ∃ v : Nat, d = v := ⟨d.toNat, by omega⟩
    refine ⟨_, rfl, b, s0, 4, rfl, by decide, by decide, B1, fun e H2 e0 e1 B2 t2 => ?_⟩
    have A2 := A1.but t2 B2
    have T2 : Kp b pr pl pf H H2 := (t1.trans t2).kp
    refine ⟨_, rfl, rfl, _, rfl, ?_⟩
    refine ite2 (fun c0 => ?_) (fun c0 => ?_)
    · have ee : e = 0 := by simpa using c0
      subst ee
      refine ⟨_, rfl, _, _, rfl, rfl, _, rfl, _, rfl, _, _, rfl, rfl, _, rfl, _, _, rfl, rfl, b, s0, _, rfl, by omega, by omega, B2, fun x H3 x0 x1 B3 t3 => ?_⟩
      have A3 := A2.but t3 B3
      obtain ⟨xs, hx, ix, A4⟩ := A3.stR (v := v) (x := (v : Int) + 1 + x) (by omega) (by omega) (by omega)
      refine ⟨_, _, rfl, rfl, _, rfl, _, rfl, pr, xs, _, v, rfl, rfl, hx, ix, ?_⟩
      refine ⟨_, rfl, rfl, _, rfl, iteF ?_⟩
      exact k _ A4 (T2.trans t3.kp).updR
    · refine ⟨_, rfl, rfl, _, rfl, ?_⟩
      refine ite2 (fun _ => ?_) (fun _ => ?_)
      · refine ⟨_, rfl, _, rfl, _, _, rfl, rfl, b, s0, _, rfl, by omega, by omega, B2, fun x H3 x0 x1 B3 t3 => ?_⟩
        have A3 := A2.but t3 B3
        obtain ⟨xs, hx, ix, A4⟩ := A3.stL (v := v) (x := x) (by omega) (by omega) (by omega)
        refine ⟨_, rfl, _, rfl, _, _, rfl, rfl, pl, xs, _, v + 1, rfl, rfl, hx, ix, ?_⟩
        exact k _ A4 (T2.trans t3.kp).updL
      · exact k _ A2 T2
end
end LL
namespace LL
open PySem PySem.Spec PyProof.Rows L2 TL
section
variable {w : World} {K : PySem.W.Frag} {mg : Str → Option Value} {base : Heap} {a : Ad}
/-! ### a world -/
structure WorldAt (H : Hp) (q pr pl pf : Addr) (r l : List Int) (f : List Bool) : Prop where
  hq : H q = some (.lst [.ref pr, .ref pl, .ref pf])
  hr : H pr = some (.lst (r.map V.int))
  hl : H pl = some (.lst (l.map V.int))
  hf : H pf = some (.lst (f.map V.bl))
def NewW (b s : Addr) (H : Hp) (n : Nat) (Q : VK) : Prop := ∀ H' q pr pl pf r l f, But b H H' → BoxAt H' b s → H q = none → H pr = none → H pl = none → H pf = none → Wld n r l f → WorldAt H' q pr pl pf r l f → Q (.ref q) H'
def spWor : Sp := fun vs H Q _ => ∃ (b s : Addr) (n : Nat), vs = [.ref b, .int n] ∧ n ≤ 60 ∧ BoxAt H b s ∧ NewW b s H n Q
theorem BoxAt.tb {H : Hp} {b s : Addr} (B : BoxAt H b s) : ∃ o, H b = some o := let ⟨_, _, _, _, _, e, _, _⟩ := B.ex; ⟨_, e⟩
theorem BoxAt.ts {H : Hp} {b s : Addr} (B : BoxAt H b s) : ∃ o, H s = some o := let ⟨_, _, _, _, _, _, e, _⟩ := B.ex; ⟨_, e⟩
theorem range_wr (n : Nat) : ((List.range (n + 1)).map fun i : Nat => V.int (0 + (i : Int) + 1)) = (wr n).map V.int := by simp [wr]
theorem range_wl (n : Nat) : ((List.range (n + 2)).map fun i : Nat => V.int (0 + (i : Int) - 1)) = (wl n).map V.int := by simp [wl]
theorem range_wf (n : Nat) : ((List.range (n + 2)).map fun _ : Nat => V.bl false) = (wf n).map V.bl := by simp [wf, List.map_const']
theorem sc_lwor : FnScope ["_law_box_here", "_law_size_here", "_law_style", "_law_node", "_law_rights", "_law_lefts", "_law_outs", "_law_last"] ["_law_box_here", "_law_size_here"] (defScope st_lwor) := ⟨rfl, rfl, rfl, by decide +kernel, rfl, by decide +kernel, by decide +kernel⟩
theorem ok_lwor (T : Txt K mg a) : Ok PW w K mg base CX0 3 a.lwor ["_law_box_here", "_law_size_here"] spWor := by
  refine ok_of T.d_lwor fun fd F => F.ok sc_lwor (fun vs H Q E h => ?_) (fun cdv A outer s H vs Q E hr h => ?_)
  · obtain ⟨b, s, n, rfl, _⟩ := h
    rfl
  · obtain ⟨b, s0, n, rfl, hn, B, k⟩ := h
    have ha := hr.mono (show 1 ≤ 2 by decide)
    refine ⟨_, pss_cons (ps_set (i := 2) sc_lwor.nd rfl (.inl rfl) (pe_ca (ok_draw T) ha T.g_draw pass0 (pa_cons (pv 0) (pa_cons pe_int pa_nil))))
      (pss_cons (ps_setLc (i := 4) (own := [("_law_node", 3)]) (g := gName 3) (tt := tYes) rfl sc_lwor.nd rfl rfl (sw_true rfl rfl rfl (by decide +kernel)) (pi_range1 (by rfl) T.n_range (pa_cons (pe_op op_add (pv 1) pe_int) pa_nil))
        (blkOk_by (N := ["_law_box_here", "_law_size_here", "_law_style", "_law_node", "_law_rights", "_law_lefts", "_law_outs", "_law_last"]) (sc := defScope st_lwor) (by decide +kernel)) (fun _ _ _ _ _ => pg_name (i := 3) sc_lwor.nd rfl (Or.inl rfl)) (fun _ _ _ _ _ => pts_nil)
        (fun _ _ _ _ _ => pe_op op_add (pv 3) pe_int))
      (pss_cons (ps_setLc (i := 5) (own := [("_law_node", 3)]) (g := gName 3) (tt := tYes) rfl sc_lwor.nd rfl rfl (sw_true rfl rfl rfl (by decide +kernel)) (pi_range1 (by rfl) T.n_range (pa_cons (pe_op op_add (pv 1) pe_int) pa_nil))
        (blkOk_by (N := ["_law_box_here", "_law_size_here", "_law_style", "_law_node", "_law_rights", "_law_lefts", "_law_outs", "_law_last"]) (sc := defScope st_lwor) (by decide +kernel)) (fun _ _ _ _ _ => pg_name (i := 3) sc_lwor.nd rfl (Or.inl rfl)) (fun _ _ _ _ _ => pts_nil)
        (fun _ _ _ _ _ => pe_op op_sub (pv 3) pe_int))
      (pss_cons (ps_setLc (i := 6) (own := [("_law_node", 3)]) (g := gName 3) (tt := tYes) rfl sc_lwor.nd rfl rfl (sw_true rfl rfl rfl (by decide +kernel)) (pi_range1 (by rfl) T.n_range (pa_cons (pe_op op_add (pv 1) pe_int) pa_nil))
        (blkOk_by (N := ["_law_box_here", "_law_size_here", "_law_style", "_law_node", "_law_rights", "_law_lefts", "_law_outs", "_law_last"]) (sc := defScope st_lwor) (by decide +kernel)) (fun _ _ _ _ _ => pg_name (i := 3) sc_lwor.nd rfl (Or.inl rfl)) (fun _ _ _ _ _ => pts_nil)
        (fun _ _ _ _ _ => pe_bl))
      (pss_cons (ps_if (pt_cmpR op_eq (pv 2) pe_int (nomark _)) (pss_one (ps_ret (pe_lst (pa_cons (pv 4) (pa_cons (pv 5) (pa_cons (pv 6) pa_nil)))))) pss_nil)
      (pss_cons (ps_for PassesOwn.never rfl (pi_range2 (by rfl) T.n_range (pa_cons pe_int (pa_cons (pe_op op_add (pv 1) pe_int) pa_nil))) (pg_name (i := 3) sc_lwor.nd rfl (Or.inl rfl))
        (pss_one (ps_asg (pe_cmpR op_eq (pe_ca (ok_draw T) ha T.g_draw pass0 (pa_cons (pv 0) (pa_cons pe_int pa_nil))) pe_int (nomark _)) (pg_sub (pv 6) (pv 3) set_list))))
      (pss_cons (ps_for PassesOwn.never rfl (pi_range1 (by rfl) T.n_range (pa_cons (pe_op op_add (pv 1) pe_int) pa_nil)) (pg_name (i := 3) sc_lwor.nd rfl (Or.inl rfl))
        (pss_cons (ps_if (PW.pt (pw_or (pt_cmpR op_gt (pv 2) pe_int (nomark _)) (pw_or1 (pt_cmpR op_eq (pe_ca (ok_draw T) ha T.g_draw pass0 (pa_cons (pv 0) (pa_cons pe_int pa_nil))) pe_int (nomark _)))))
          (pss_one (ps_asg (pe_op op_add (pe_op op_add (pv 3) pe_int) (pe_ca (ok_draw T) ha T.g_draw pass0 (pa_cons (pv 0) (pa_cons (pe_op op_sub (pe_op op_add (pv 1) pe_int) (pv 3)) pa_nil)))) (pg_sub (pv 4) (pv 3) set_list))) pss_nil)
        (pss_one (ps_if (PW.pt (pw_or (pt_cmpR op_gt (pv 2) pe_int (nomark _)) (pw_or1 (pt_cmpR op_eq (pe_ca (ok_draw T) ha T.g_draw pass0 (pa_cons (pv 0) (pa_cons pe_int pa_nil))) pe_int (nomark _)))))
          (pss_one (ps_asg (pe_ca (ok_draw T) ha T.g_draw pass0 (pa_cons (pv 0) (pa_cons (pe_op op_add (pv 3) pe_int) pa_nil))) (pg_sub (pv 5) (pe_op op_add (pv 3) pe_int) set_list))) pss_nil))))
      (pss_cons (ps_if (pt_cmpR op_eq (pv 2) pe_int (nomark _))
        (pss_cons (ps_set (i := 7) sc_lwor.nd rfl (.inl rfl) pe_int)
        (pss_cons (ps_for PassesOwn.never rfl (pi_range2 (by rfl) T.n_range (pa_cons pe_int (pa_cons (pe_op op_add (pv 1) pe_int) pa_nil))) (pg_name (i := 3) sc_lwor.nd rfl (Or.inl rfl))
          (pss_one (ps_if (pt_not (pt_val (pe_ix ix_list (pv 6) (pv 3) (fun _ _ => rfl))))
            (pss_cons (ps_asg (pv 3) (pg_sub (pv 4) (pv 7) set_list))
            (pss_cons (ps_asg (pv 7) (pg_sub (pv 5) (pv 3) set_list))
            (pss_one (ps_set (i := 7) sc_lwor.nd rfl (.inl rfl) (pv 3))))) pss_nil)))
        (pss_one (ps_expr (pe_ca (ok_lben T) hr T.g_lben pass0 (pa_cons (pv 0) (pa_cons (pv 1) (pa_cons (pv 4) (pa_cons (pv 5) pa_nil))))))))) pss_nil)
      (pss_one (ps_ret (pe_lst (pa_cons (pv 4) (pa_cons (pv 5) (pa_cons (pv 6) pa_nil))))))))))))), ?_⟩
    refine ⟨_, rfl, b, s0, 4, rfl, by decide, by decide, B, fun st H1 st0 st1 B1 t1 => ?_⟩
    -- the three lists
    refine ⟨_, rfl, _, _, rfl, rfl, _, rfl, by omega, by omega, ?_⟩
    rw [show ((n : Int) + 1).toNat = n + 1 from by omega]
    intro pr hpr
    refine lc_pure (fun i => V.int (0 + (i : Int) + 1)) hpr (small1000 (by omega)) (fun i H' R _ _ q => ⟨rfl, _, rfl, _, _, rfl, rfl, q⟩) ?_
    rw [range_wr]
    refine ⟨_, rfl, _, _, rfl, rfl, _, rfl, by omega, by omega, ?_⟩
    rw [show ((n : Int) + 2).toNat = n + 2 from by omega]
    intro pl hpl
    refine lc_pure (fun i => V.int (0 + (i : Int) - 1)) hpl (small1000 (by omega)) (fun i H' R _ _ q => ⟨rfl, _, rfl, _, _, rfl, rfl, q⟩) ?_
    rw [range_wl]
    refine ⟨_, rfl, _, _, rfl, rfl, _, rfl, by omega, by omega, ?_⟩
    rw [show ((n : Int) + 2).toNat = n + 2 from by omega]
    intro pf hpf
    refine lc_pure (fun i => V.bl false) hpf (small1000 (by omega)) (fun i H' R _ _ q => ⟨rfl, q⟩) ?_
    rw [range_wf]
    obtain ⟨efl, hpf'⟩ := upd_none hpf
    obtain ⟨efr, hpf'⟩ := upd_none hpf'
    obtain ⟨elr, hpl'⟩ := upd_none hpl
    obtain ⟨ob, tb⟩ := B1.tb
    obtain ⟨os, ts⟩ := B1.ts
    have hnew : ∀ q, H1 q = none → q ≠ b → H q = none := fun q e nb => by
      cases z : H q with
      | none => rfl
      | some o => rw [t1 q o nb z] at e; cases e
    have nb : ∀ q, H1 q = none → q ≠ b := fun q e z => by rw [z, tb] at e; cases e
    have ns : ∀ q, H1 q = none → q ≠ s0 := fun q e z => by rw [z, ts] at e; cases e
    have D : Ds b s0 pr pl pf := ⟨Ne.symm elr, Ne.symm efr, Ne.symm efl, nb _ hpr, nb _ hpl', nb _ hpf', ns _ hpr, ns _ hpl', ns _ hpf'⟩
    have s3 : Same H1 (upd (upd (upd H1 pr (.lst ((wr n).map V.int))) pl (.lst ((wl n).map V.int))) pf (.lst ((wf n).map V.bl))) := same_upd (same_upd (same_upd (Same.refl _) hpr) hpl) hpf
    have A3 : WAt (upd (upd (upd H1 pr (.lst ((wr n).map V.int))) pl (.lst ((wl n).map V.int))) pf (.lst ((wf n).map V.bl))) b s0 pr pl pf n :=
      ⟨⟨wr n, wl n, wf n, whole_wld hn, by rw [upd_ne D.rf, upd_ne D.rl, upd_same], by rw [upd_ne D.lf, upd_same], upd_same⟩, B1.same s3, D⟩
    generalize upd (upd (upd H1 pr (.lst ((wr n).map V.int))) pl (.lst ((wl n).map V.int))) pf (.lst ((wf n).map V.bl)) = H3 at *
    have fin : ∀ H4, WAt H4 b s0 pr pl pf n → Kp b pr pl pf H3 H4 → ∀ q, H4 q = none → Q (.ref q) (upd H4 q (.lst [.ref pr, .ref pl, .ref pf])) := by
      intro H4 A4 K4 q hq
      obtain ⟨r, l, f, W, e1, e2, e3⟩ := A4.ex
      have sq := same_upd (o := .lst [.ref pr, .ref pl, .ref pf]) (Same.refl H4) hq
      have fr : But b H H4 := fun u o hu e => by
        have e1 := t1 u o hu e
        exact K4 u o hu (ne_of_none e1 hpr) (ne_of_none e1 hpl') (ne_of_none e1 hpf') (s3 _ _ e1)
      have hqb : q ≠ b := fun z => by
        obtain ⟨o, e⟩ := A4.bx.tb
        rw [z, e] at hq; cases hq
      have hqn : H q = none := by
        cases z : H q with
        | none => rfl
        | some o => rw [fr q o hqb z] at hq; cases hq
      exact k _ q pr pl pf r l f (fr.trans (LL.Same.but sq)) (A4.bx.same sq) hqn (hnew _ hpr D.rb) (hnew _ hpl' D.lb) (hnew _ hpf' D.fb) W ⟨upd_same, sq _ _ e1, sq _ _ e2, sq _ _ e3⟩
    refine ⟨_, rfl, rfl, _, rfl, ?_⟩
    refine ite2 (fun _ => ?_) (fun _ => ?_)
    · exact ⟨_, rfl, _, rfl, _, rfl, (by show 3 ≤ sizeLine; decide), fin H3 A3 (fun _ _ _ _ _ _ e => e)⟩
    -- in and out
    refine ⟨_, rfl, _, _, rfl, rfl, 1, (n : Int) + 1, rfl, ⟨by decide, by decide, by omega, by omega⟩, ?_⟩
    refine for_range (lo := 1) (n := ((n : Int) + 1 - 1).toNat) (fun _ σ H4 => (∃ y z, σ = [some (.ref b), some (.int n), some (.int st), y, some (.ref pr), some (.ref pl), some (.ref pf), z]) ∧ WAt H4 b s0 pr pl pf n ∧ Kp b pr pl pf H3 H4)
      ⟨⟨_, _, rfl⟩, A3, fun _ _ _ _ _ _ e => e⟩ ?_ ?_
    · rintro i σ H4 hi ⟨⟨y, z, rfl⟩, A4, K4⟩
      rw [show (1 : Int) + (i : Int) = ((i + 1 : Nat) : Int) from by omega]
      refine ⟨_, rfl, b, s0, 2, rfl, by decide, by decide, A4.bx, fun d H5 d0 d1 B5 t5 => ?_⟩
      obtain ⟨xs, hx, ix, A6⟩ := (A4.but t5 B5).stF (v := i + 1) (x := decide (V.int d = V.int 0)) (by omega) (by omega)
      refine ⟨rfl, _, rfl, _, rfl, pf, xs, _, i + 1, rfl, rfl, hx, ix, ?_⟩
      exact ⟨⟨_, _, rfl⟩, A6, (K4.trans t5.kp).updF⟩
    rintro σ H4 ⟨⟨y, z, rfl⟩, A4, K4⟩
    -- the links
    refine ⟨_, rfl, _, _, rfl, rfl, _, rfl, by omega, by omega, ?_⟩
    refine for_range (lo := 0) (n := ((n : Int) + 1).toNat) (fun _ σ H5 => (∃ y z, σ = [some (.ref b), some (.int n), some (.int st), y, some (.ref pr), some (.ref pl), some (.ref pf), z]) ∧ WAt H5 b s0 pr pl pf n ∧ Kp b pr pl pf H3 H5)
      ⟨⟨_, _, rfl⟩, A4, K4⟩ ?_ ?_
    · rintro i σ H5 hi ⟨⟨y, z, rfl⟩, A5, K5⟩
      rw [show (0 : Int) + (i : Int) = (i : Int) from by omega]
      change tSeq _ ?tR ?tD ?tS _
      have tail : ∀ H6, WAt H6 b s0 pr pl pf n → Kp b pr pl pf H3 H6 → ?tR ?tD ?tS H6 := by
        intro H6 A6 K6
        have put : ∀ H7, WAt H7 b s0 pr pl pf n → Kp b pr pl pf H3 H7 → ∀ x H8, 0 ≤ x → x < (i : Int) + 1 → BoxAt H8 b s0 → But b H7 H8 → ∃ xs, H8 pl = some (.lst xs) ∧ ixN xs.length ((i : Int) + 1) = some (i + 1) ∧
            (WAt (upd H8 pl (.lst (xs.set (i + 1) (.int x)))) b s0 pr pl pf n ∧ Kp b pr pl pf H3 (upd H8 pl (.lst (xs.set (i + 1) (.int x))))) := by
          intro H7 A7 K7 x H8 x0 x1 B8 t8
          obtain ⟨xs, hx, ix, A9⟩ := (A7.but t8 B8).stL (v := i) (x := x) (by omega) (by omega) (by omega)
          exact ⟨xs, hx, ix, A9, (K7.trans t8.kp).updL⟩
        refine ⟨_, rfl, _, _, rfl, rfl, _, rfl, ?_⟩
        refine ite2 (fun _ => ?_) (fun _ => ?_)
        · refine iteT ⟨_, rfl, _, rfl, _, _, rfl, rfl, b, s0, _, rfl, by omega, by omega, A6.bx, fun x H8 x0 x1 B8 t8 => ?_⟩
          obtain ⟨xs, hx, ix, A9, K9⟩ := put H6 A6 K6 x H8 x0 x1 B8 t8
          exact ⟨_, rfl, _, rfl, _, _, rfl, rfl, pl, xs, _, i + 1, rfl, rfl, hx, ix, ⟨_, _, rfl⟩, A9, K9⟩
        · refine ⟨_, rfl, b, s0, 3, rfl, by decide, by decide, A6.bx, fun d H7 d0 d1 B7 t7 => ?_⟩
          have A7 := A6.but t7 B7
          have K7 := K6.trans t7.kp
          refine ⟨rfl, _, rfl, ?_⟩
          refine ite2 (fun _ => ?_) (fun _ => ?_)
          · refine ⟨_, rfl, _, rfl, _, _, rfl, rfl, b, s0, _, rfl, by omega, by omega, A7.bx, fun x H8 x0 x1 B8 t8 => ?_⟩
            obtain ⟨xs, hx, ix, A9, K9⟩ := put H7 A7 K7 x H8 x0 x1 B8 t8
            exact ⟨_, rfl, _, rfl, _, _, rfl, rfl, pl, xs, _, i + 1, rfl, rfl, hx, ix, ⟨_, _, rfl⟩, A9, K9⟩
          · exact ⟨⟨_, _, rfl⟩, A7, K7⟩
      have put : ∀ H7, WAt H7 b s0 pr pl pf n → Kp b pr pl pf H3 H7 → ∀ x H8, 0 ≤ x → x < (n : Int) + 1 - (i : Int) → BoxAt H8 b s0 → But b H7 H8 → ∃ xs, H8 pr = some (.lst xs) ∧ ixN xs.length (i : Int) = some i ∧
          (WAt (upd H8 pr (.lst (xs.set i (.int ((i : Int) + 1 + x))))) b s0 pr pl pf n ∧ Kp b pr pl pf H3 (upd H8 pr (.lst (xs.set i (.int ((i : Int) + 1 + x)))))) := by
        intro H7 A7 K7 x H8 x0 x1 B8 t8
        obtain ⟨xs, hx, ix, A9⟩ := (A7.but t8 B8).stR (v := i) (x := (i : Int) + 1 + x) (by omega) (by omega) (by omega)
        exact ⟨xs, hx, ix, A9, (K7.trans t8.kp).updR⟩
      refine ⟨_, rfl, _, _, rfl, rfl, _, rfl, ?_⟩
      refine ite2 (fun _ => ?_) (fun _ => ?_)
      · refine iteT ⟨_, rfl, _, _, rfl, rfl, _, rfl, _, rfl, _, _, rfl, rfl, _, rfl, _, _, rfl, rfl, b, s0, _, rfl, by omega, by omega, A5.bx, fun x H8 x0 x1 B8 t8 => ?_⟩
        obtain ⟨xs, hx, ix, A9, K9⟩ := put H5 A5 K5 x H8 x0 x1 B8 t8
        exact ⟨_, _, rfl, rfl, _, rfl, _, rfl, pr, xs, _, i, rfl, rfl, hx, ix, tail _ A9 K9⟩
      · refine ⟨_, rfl, b, s0, 3, rfl, by decide, by decide, A5.bx, fun d H7 d0 d1 B7 t7 => ?_⟩
        have A7 := A5.but t7 B7
        have K7 := K5.trans t7.kp
        refine ⟨rfl, _, rfl, ?_⟩
        refine ite2 (fun _ => ?_) (fun _ => ?_)
        · refine ⟨_, rfl, _, _, rfl, rfl, _, rfl, _, rfl, _, _, rfl, rfl, _, rfl, _, _, rfl, rfl, b, s0, _, rfl, by omega, by omega, A7.bx, fun x H8 x0 x1 B8 t8 => ?_⟩
          obtain ⟨xs, hx, ix, A9, K9⟩ := put H7 A7 K7 x H8 x0 x1 B8 t8
          exact ⟨_, _, rfl, rfl, _, rfl, _, rfl, pr, xs, _, i, rfl, rfl, hx, ix, tail _ A9 K9⟩
        · exact tail _ A7 K7
    rintro σ H5 ⟨⟨y, z, rfl⟩, A5, K5⟩
    refine ⟨_, rfl, rfl, _, rfl, ?_⟩
    refine ite2 (fun _ => ?_) (fun _ => ?_)
    · refine ⟨_, rfl, _, _, rfl, rfl, 1, (n : Int) + 2, rfl, ⟨by decide, by decide, by omega, by omega⟩, ?_⟩
      refine for_range (lo := 1) (n := ((n : Int) + 2 - 1).toNat) (fun i σ H6 => (∃ (y : Option V) (t : Nat), t ≤ i ∧ σ = [some (.ref b), some (.int n), some (.int st), y, some (.ref pr), some (.ref pl), some (.ref pf), some (.int t)]) ∧ WAt H6 b s0 pr pl pf n ∧ Kp b pr pl pf H3 H6)
        ⟨⟨_, 0, Nat.le_refl _, rfl⟩, A5, K5⟩ ?_ ?_
      · rintro i σ H6 hi ⟨⟨y, t, ht, rfl⟩, A6, K6⟩
        rw [show (1 : Int) + (i : Int) = ((i + 1 : Nat) : Int) from by omega]
        obtain ⟨r, l, f, W, e1, e2, e3⟩ := A6.ex
        have lf := W.lf
        obtain ⟨x, hx⟩ := get_some (l := f) (i := i + 1) (by omega)
        refine ⟨_, rfl, _, rfl, pf, _, _, _, rfl, rfl, .inl (.inl e3), at_map hx, x, rfl, ?_⟩
        cases x with
        | true => exact iteF ⟨⟨_, t, by omega, rfl⟩, A6, K6⟩
        | false =>
          obtain ⟨xs, hx, ix, A7⟩ := A6.stR (v := t) (x := ((i + 1 : Nat) : Int)) (by omega) (by omega) (by omega)
          obtain ⟨ys, hy, iy, A8⟩ := A7.stL (v := i) (x := (t : Int)) (by omega) (by omega) (by omega)
          refine iteT ⟨_, rfl, _, rfl, _, rfl, pr, xs, _, t, rfl, rfl, hx, ix, ?_⟩
          refine ⟨_, rfl, _, rfl, _, rfl, pl, ys, _, i + 1, rfl, rfl, hy, iy, ?_⟩
          exact ⟨_, rfl, ⟨_, i + 1, Nat.le_refl _, rfl⟩, A8, K6.updR.updL⟩
      · rintro σ H6 ⟨⟨y, t, ht, rfl⟩, A6, K6⟩
        refine ⟨_, rfl, _, rfl, _, rfl, _, rfl, b, s0, pr, pl, pf, n, rfl, A6, fun H7 A7 K7 => ?_⟩
        exact ⟨_, rfl, _, rfl, _, rfl, (by show 3 ≤ sizeLine; decide), fin H7 A7 (K6.trans K7)⟩
    · exact ⟨_, rfl, _, rfl, _, rfl, (by show 3 ≤ sizeLine; decide), fin H5 A5 K5⟩
end
end LL
namespace LL
open PySem PySem.Spec PyProof.Rows L2 TL
section
variable {w : World} {K : PySem.W.Frag} {mg : Str → Option Value} {base : Heap} {a : Ad}
/-! ### a world near by -/
def spNea : Sp := fun vs H Q _ => ∃ (b s q pr pl pf : Addr) (n : Nat) (r l : List Int) (f : List Bool), vs = [.ref b, .int n, .ref q] ∧ BoxAt H b s ∧ Wld n r l f ∧ WorldAt H q pr pl pf r l f ∧ NewW b s H n Q
theorem sc_lnea : FnScope ["_law_box_here", "_law_size_here", "_law_world_here", "_law_near_here", "_law_node", "_law_kind"] ["_law_box_here", "_law_size_here", "_law_world_here"] (defScope st_lnea) := ⟨rfl, rfl, rfl, by decide +kernel, rfl, by decide +kernel, by decide +kernel⟩
theorem ok_lnea (T : Txt K mg a) : Ok PW w K mg base CX0 2 a.lnea ["_law_box_here", "_law_size_here", "_law_world_here"] spNea := by
  refine ok_of T.d_lnea fun fd F => F.ok sc_lnea (fun vs H Q E h => ?_) (fun cdv A outer s H vs Q E hr h => ?_)
  · obtain ⟨b, s, q, pr, pl, pf, n, r, l, f, rfl, _⟩ := h
    rfl
  · obtain ⟨b, s0, q, qr, ql, qf, n, r, l, f, rfl, B, W, WW, k⟩ := h
    have hn := W.hn
    refine ⟨_, pss_cons (ps_set (i := 3) sc_lnea.nd rfl (.inl rfl) (pe_lst (pa_cons (pe_callTy call_list_of (by rfl) T.n_list (by decide +kernel) (pa_cons (pe_ix ix_list (pv 2) pe_int (fun _ _ => rfl)) pa_nil))
        (pa_cons (pe_callTy call_list_of (by rfl) T.n_list (by decide +kernel) (pa_cons (pe_ix ix_list (pv 2) pe_int (fun _ _ => rfl)) pa_nil))
        (pa_cons (pe_callTy call_list_of (by rfl) T.n_list (by decide +kernel) (pa_cons (pe_ix ix_list (pv 2) pe_int (fun _ _ => rfl)) pa_nil)) pa_nil)))))
      (pss_cons (ps_set (i := 4) sc_lnea.nd rfl (.inl rfl) (pe_ca (ok_draw T) hr T.g_draw pass0 (pa_cons (pv 0) (pa_cons (pe_op op_add (pv 1) pe_int) pa_nil))))
      (pss_cons (ps_set (i := 5) sc_lnea.nd rfl (.inl rfl) (pe_ca (ok_draw T) hr T.g_draw pass0 (pa_cons (pv 0) (pa_cons pe_int pa_nil))))
      (pss_cons (ps_if (pt_cmpR op_eq (pv 5) pe_int (nomark _))
        (pss_one (ps_asg (pe_op op_add (pe_op op_add (pv 4) pe_int) (pe_ca (ok_draw T) hr T.g_draw pass0 (pa_cons (pv 0) (pa_cons (pe_op op_sub (pe_op op_add (pv 1) pe_int) (pv 4)) pa_nil)))) (pg_sub (pe_ix ix_list (pv 3) pe_int (fun _ _ => rfl)) (pv 4) set_list))) pss_nil)
      (pss_cons (ps_if (pt_cmpR op_eq (pv 5) pe_int (nomark _))
        (pss_one (ps_asg (pe_ca (ok_draw T) hr T.g_draw pass0 (pa_cons (pv 0) (pa_cons (pe_op op_add (pv 4) pe_int) pa_nil))) (pg_sub (pe_ix ix_list (pv 3) pe_int (fun _ _ => rfl)) (pe_op op_add (pv 4) pe_int) set_list))) pss_nil)
      (pss_cons (ps_if (PW.pt (pw_and (pt_cmpR op_eq (pv 5) pe_int (nomark _)) (pw_and1 (pt_cmpR op_gt (pv 4) pe_int (nomark _)))))
        (pss_one (ps_asg (pe_not (pe_ix ix_list (pe_ix ix_list (pv 3) pe_int (fun _ _ => rfl)) (pv 4) (fun _ _ => rfl))) (pg_sub (pe_ix ix_list (pv 3) pe_int (fun _ _ => rfl)) (pv 4) set_list))) pss_nil)
      (pss_one (ps_ret (pv 3)))))))), ?_⟩
    refine ⟨_, rfl, q, _, _, _, rfl, rfl, .inl (.inl WW.hq), rfl, qr, _, rfl, .inl (.inl (.inl WW.hr)), fun pr hpr => ?_⟩
    have s1 := same_upd (o := .lst (r.map V.int)) (Same.refl H) hpr
    refine ⟨_, rfl, q, _, _, _, rfl, rfl, .inl (.inl (s1 _ _ WW.hq)), rfl, ql, _, rfl, .inl (.inl (.inl (s1 _ _ WW.hl))), fun pl hpl => ?_⟩
    have s2 := same_upd (o := .lst (l.map V.int)) s1 hpl
    refine ⟨_, rfl, q, _, _, _, rfl, rfl, .inl (.inl (s2 _ _ WW.hq)), rfl, qf, _, rfl, .inl (.inl (.inl (s2 _ _ WW.hf))), fun pf hpf => ?_⟩
    have s3 := same_upd (o := .lst (f.map V.bl)) s2 hpf
    refine ⟨(by show 3 ≤ sizeLine; decide), fun qn hqn => ?_⟩
    have s4 := same_upd (o := .lst [.ref pr, .ref pl, .ref pf]) s3 hqn
    obtain ⟨elr, hpl'⟩ := upd_none hpl
    obtain ⟨efl, hpf'⟩ := upd_none hpf
    obtain ⟨efr, hpf'⟩ := upd_none hpf'
    obtain ⟨eqf, hqn'⟩ := upd_none hqn
    obtain ⟨eql, hqn'⟩ := upd_none hqn'
    obtain ⟨eqr, hqn'⟩ := upd_none hqn'
    obtain ⟨ob, tb⟩ := B.tb
    obtain ⟨os, ts⟩ := B.ts
    have nb : ∀ q, H q = none → q ≠ b := fun q e z => by rw [z, tb] at e; cases e
    have ns : ∀ q, H q = none → q ≠ s0 := fun q e z => by rw [z, ts] at e; cases e
    have D : Ds b s0 pr pl pf := ⟨Ne.symm elr, Ne.symm efr, Ne.symm efl, nb _ hpr, nb _ hpl', nb _ hpf', ns _ hpr, ns _ hpl', ns _ hpf'⟩
    have A0 : WAt (upd (upd (upd (upd H pr (.lst (r.map V.int))) pl (.lst (l.map V.int))) pf (.lst (f.map V.bl))) qn (.lst [.ref pr, .ref pl, .ref pf])) b s0 pr pl pf n :=
      ⟨⟨r, l, f, W, by rw [upd_ne (Ne.symm eqr), upd_ne D.rf, upd_ne D.rl, upd_same], by rw [upd_ne (Ne.symm eql), upd_ne D.lf, upd_same], by rw [upd_ne (Ne.symm eqf), upd_same]⟩, B.same s4, D⟩
    have hq0 : (upd (upd (upd (upd H pr (.lst (r.map V.int))) pl (.lst (l.map V.int))) pf (.lst (f.map V.bl))) qn (.lst [.ref pr, .ref pl, .ref pf])) qn = some (.lst [.ref pr, .ref pl, .ref pf]) := upd_same
    generalize upd (upd (upd (upd H pr (.lst (r.map V.int))) pl (.lst (l.map V.int))) pf (.lst (f.map V.bl))) qn (.lst [.ref pr, .ref pl, .ref pf]) = H0 at *
    have fin : ∀ H4, WAt H4 b s0 pr pl pf n → Kp b pr pl pf H0 H4 → Q (.ref qn) H4 := by
      intro H4 A4 K4
      obtain ⟨r, l, f, W, e1, e2, e3⟩ := A4.ex
      refine k _ qn pr pl pf r l f (fun u o hu e => K4 u o hu (ne_of_none e hpr) (ne_of_none e hpl') (ne_of_none e hpf') (s4 _ _ e)) A4.bx hqn' hpr hpl' hpf' W ⟨K4 _ _ (nb _ hqn') eqr eql eqf hq0, e1, e2, e3⟩
    refine ⟨_, rfl, _, rfl, _, _, rfl, rfl, b, s0, _, rfl, by omega, by omega, A0.bx, fun d H1 d0 d1 B1 t1 => ?_⟩
    have A1 := A0.but t1 B1
    obtain ⟨v, rfl⟩ : ∃ v : Nat, d = v := ⟨d.toNat, by omega⟩
    refine ⟨_, rfl, b, s0, 4, rfl, by decide, by decide, B1, fun e H2 e0 e1 B2 t2 => ?_⟩
    have A2 := A1.but t2 B2
    have T2 : Kp b pr pl pf H0 H2 := (t1.trans t2).kp
    have hq : ∀ H4, Kp b pr pl pf H0 H4 → H4 qn = some (.lst [.ref pr, .ref pl, .ref pf]) := fun H4 K4 => K4 _ _ (nb _ hqn') eqr eql eqf hq0
    have cs : e = 0 ∨ e = 1 ∨ e = 2 ∨ e = 3 := by omega
    rcases cs with rfl | rfl | rfl | rfl
    · refine ⟨_, rfl, rfl, _, rfl, iteT ?_⟩
      refine ⟨_, rfl, _, _, rfl, rfl, _, rfl, _, rfl, _, _, rfl, rfl, _, rfl, _, _, rfl, rfl, b, s0, _, rfl, by omega, by omega, B2, fun x H3 x0 x1 B3 t3 => ?_⟩
      have A3 := A2.but t3 B3
      obtain ⟨xs, hx, ix, A4⟩ := A3.stR (v := v) (x := (v : Int) + 1 + x) (by omega) (by omega) (by omega)
      have K3 := T2.trans (t3.kp (pr := pr) (pl := pl) (pf := pf))
      refine ⟨_, _, rfl, rfl, _, rfl, qn, _, _, _, rfl, rfl, .inl (.inl (hq _ K3)), rfl, _, rfl, pr, xs, _, v, rfl, rfl, hx, ix, ?_⟩
      refine ⟨_, rfl, rfl, _, rfl, iteF ?_⟩
      refine ⟨_, rfl, rfl, _, rfl, iteF (iteF ?_)⟩
      exact ⟨_, rfl, fin _ A4 K3.updR⟩
    · refine ⟨_, rfl, rfl, _, rfl, iteF ?_⟩
      refine ⟨_, rfl, rfl, _, rfl, iteT ?_⟩
      refine ⟨_, rfl, _, rfl, _, _, rfl, rfl, b, s0, _, rfl, by omega, by omega, B2, fun x H3 x0 x1 B3 t3 => ?_⟩
      have A3 := A2.but t3 B3
      obtain ⟨xs, hx, ix, A4⟩ := A3.stL (v := v) (x := x) (by omega) (by omega) (by omega)
      have K3 := T2.trans (t3.kp (pr := pr) (pl := pl) (pf := pf))
      refine ⟨_, rfl, qn, _, _, _, rfl, rfl, .inl (.inl (hq _ K3)), rfl, _, rfl, _, _, rfl, rfl, pl, xs, _, v + 1, rfl, rfl, hx, ix, ?_⟩
      refine ⟨_, rfl, rfl, _, rfl, iteF (iteF ?_)⟩
      exact ⟨_, rfl, fin _ A4 K3.updL⟩
    · refine ⟨_, rfl, rfl, _, rfl, iteF ?_⟩
      refine ⟨_, rfl, rfl, _, rfl, iteF ?_⟩
      refine ⟨_, rfl, rfl, _, rfl, iteT ?_⟩
      refine ⟨_, rfl, _, _, rfl, rfl, _, rfl, ?_⟩
      refine ite2 (fun c => ?_) (fun _ => ?_)
      · have c' : (0 : Int) < v := of_decide_eq_true c
        obtain ⟨r, l, f, W, e1, e2, e3⟩ := A2.ex
        have lf := W.lf
        obtain ⟨x, hx⟩ := get_some (l := f) (i := v) (by omega)
        obtain ⟨xs, hxs, ix, A4⟩ := A2.stF (v := v) (x := !x) (by omega) (by omega)
        refine ⟨_, rfl, qn, _, _, _, rfl, rfl, .inl (.inl (hq _ T2)), rfl, _, rfl, pf, _, _, _, rfl, rfl, .inl (.inl e3), at_map hx, x, rfl, ?_⟩
        refine ⟨_, rfl, qn, _, _, _, rfl, rfl, .inl (.inl (hq _ T2)), rfl, _, rfl, pf, xs, _, v, rfl, rfl, hxs, ix, ?_⟩
        exact ⟨_, rfl, fin _ A4 T2.updF⟩
      · exact ⟨_, rfl, fin _ A2 T2⟩
    · refine ⟨_, rfl, rfl, _, rfl, iteF ?_⟩
      refine ⟨_, rfl, rfl, _, rfl, iteF ?_⟩
      refine ⟨_, rfl, rfl, _, rfl, iteF (iteF ?_)⟩
      exact ⟨_, rfl, fin _ A2 T2⟩
/-! ### the law's own dump -/
theorem can_strs : ∀ l : List Int, Small l → PyData.canLayAll0 ((l.map num).map PyData.str) = true
  | [], _ => rfl
  | x :: l, h => by
    have hx := h x List.mem_cons_self
    have e : PyData.strOk (num x) = true := by
      unfold PyData.strOk
      rw [← Array.all_toList, List.all_eq_true]
      intro c hc
      have := num_chars hx.1 hx.2 c hc
      simp
      omega
    simp only [List.map_cons, PyData.canLayAll0, PyData.canLay0, e, Bool.true_and]
    exact can_strs l fun y hy => h y (List.mem_cons_of_mem _ hy)
theorem dep_strs : ∀ l : List Str, PyData.depthAll (l.map PyData.str) = 0
  | [] => rfl
  | _ :: r => by simp [PyData.depthAll, PyData.depth, dep_strs r]
theorem dp_strs {H : Hp} : ∀ l : List Str, DpAll K H (l.map V.str) (l.map PyData.str)
  | [] => .nil
  | _ :: l => .cons (.str _) (dp_strs l)
theorem rd_strs {H : Hp} {p q : Addr} {l : List Int} {Q : VK} (hs : Small l) (hp : H p = some (.lst ((l.map num).map V.str))) (hq : H q = some (.lst [])) (k : Q (.bl (decide (l = []))) H) : rEqD K (.ref p) (.ref q) H Q := by
  refine ⟨_, _, .lst (.inl (.inl hp)) (dp_strs _), .lst (.inl (.inl hq)) .nil, ?_, by rfl, ?_⟩
  · simp only [SeqAt.shaped, PyData.canLay0, PyData.depth, can_strs l hs, dep_strs]
    rfl
  · rw [PyData.eqv]
    cases l with
    | nil => exact k
    | cons x l => exact k
def spLdum : Sp := fun vs H Q _ => ∃ (pr pl pf : Addr) (n : Nat) (r l : List Int) (f : List Bool), vs = [.int n, .ref pr, .ref pl, .ref pf] ∧ Wld n r l f ∧ H pr = some (.lst (r.map V.int)) ∧ H pl = some (.lst (l.map V.int)) ∧ H pf = some (.lst (f.map V.bl)) ∧
  ∀ H', Same H H' → Q (.str (dmp n r l f)) H'
theorem sc_ldum : FnScope ["_law_size_here", "_law_rights", "_law_lefts", "_law_outs", "_law_gone", "_law_first", "_law_second", "_law_node"] ["_law_size_here", "_law_rights", "_law_lefts", "_law_outs"] (defScope st_ldum) := ⟨rfl, rfl, rfl, by decide +kernel, rfl, by decide +kernel, by decide +kernel⟩
theorem range_get {l : List Int} {m : Nat} (h : l.length = m) : ((List.range m).map fun i : Nat => V.str (num (l.getD i 0))) = (l.map num).map V.str := by
  refine List.ext_getElem? fun i => ?_
  rw [List.getElem?_map, List.getElem?_map, List.getElem?_map]
  by_cases hi : i < m
  · rw [List.getElem?_range hi, List.getElem?_eq_getElem (by omega)]
    show some (V.str (num (l.getD i 0))) = _
    rw [List.getD_eq_getElem?_getD, List.getElem?_eq_getElem (by omega)]
    rfl
  · rw [List.getElem?_eq_none (by rw [List.length_range]; omega), List.getElem?_eq_none (by omega)]
    rfl
theorem dmp_cat {n : Nat} {r l : List Int} {f : List Bool} : ptx r ++ (" | " : Str) ++ ptx (l.drop 1) ++ (" | " : Str) ++ gtx n f = dmp n r l f := by
  refine ext_tl ?_
  unfold dmp
  rw [join_eq, tl_join, tl_bar, tl_append, tl_append, tl_append, tl_append, show tl (" | " : Str) = [32, 124, 32] from tl_bar]
  show _ = tl (ptx r) ++ ([32, 124, 32] ++ (tl (ptx (l.drop 1)) ++ ([32, 124, 32] ++ tl (gtx n f))))
  simp only [List.append_assoc]
theorem app_len (x y : Str) : (x ++ y).length = x.length + y.length := by
  rw [len_tl, len_tl, len_tl, tl_append, List.length_append]
def rStrI : List V → Hp → VK → Prop := fun xs H Q => ∃ i, xs = [.int i] ∧ i.natAbs.log2 < 1920 ∧ Q (.str (toString i)) H
theorem call_strI {X : Cx} : CallR X (.type "str") rStrI := call_str_int
theorem getD_at {l : List Int} {i : Nat} (h : i < l.length) : l[i]? = some (l.getD i 0) := by
  rw [List.getD_eq_getElem?_getD, List.getElem?_eq_getElem h]
  rfl
theorem ok_ldum (T : Txt K mg a) : Ok PW w K mg base CX0 1 a.ldum ["_law_size_here", "_law_rights", "_law_lefts", "_law_outs"] spLdum := by
  refine ok_of T.d_ldum fun fd F => F.ok sc_ldum (fun vs H Q E h => ?_) (fun cdv A outer s H vs Q E hr h => ?_)
  · obtain ⟨pr, pl, pf, n, r, l, f, rfl, _⟩ := h
    rfl
  · obtain ⟨pr, pl, pf, n, r, l, f, rfl, W, hpr, hpl, hpf, k⟩ := h
    have lr := W.lr
    have ll := W.ll
    have lf := W.lf
    have hn := W.hn
    refine ⟨_, pss_cons (ps_setLc (i := 4) (own := [("_law_node", 7)]) (g := gName 7) (tt := tB (tOp (rIxL K) (tVar 3) (tVar 7))) rfl sc_ldum.nd rfl rfl (sw_true rfl rfl rfl (by decide +kernel)) (pi_range2 (by rfl) T.n_range (pa_cons pe_int (pa_cons (pe_op op_add (pv 0) pe_int) pa_nil)))
        (blkOk_by (N := ["_law_size_here", "_law_rights", "_law_lefts", "_law_outs", "_law_gone", "_law_first", "_law_second", "_law_node"]) (sc := defScope st_ldum) (by decide +kernel)) (fun _ _ _ _ _ => pg_name (i := 7) sc_ldum.nd rfl (Or.inl rfl))
        (fun _ _ _ _ _ => pts_one (pt_val (pe_ix ix_list (pv 3) (pv 7) (fun _ _ => rfl)))) (fun _ _ _ _ _ => pe_callTy call_strI (by rfl) T.n_str (by decide +kernel) (pa_cons (pv 7) pa_nil)))
      (pss_cons (ps_if (pt_cmpR (op_eqD hr.units) (pv 4) (pe_lst pa_nil) (nomark _)) (pss_one (ps_set (i := 4) sc_ldum.nd rfl (.inl rfl) (pe_lst (pa_cons pe_str pa_nil)))) pss_nil)
      (pss_cons (ps_set (i := 5) sc_ldum.nd rfl (.inl rfl) (pe_join pe_str (pe_lc (own := [("_law_node", 7)]) (g := gName 7) (tt := tYes) (te := tCB rStrI (tCons (tOp (rIxL K) (tVar 1) (tVar 7)) tNil)) rfl sc_ldum.nd (pi_range1 (by rfl) T.n_range (pa_cons (pe_op op_add (pv 0) pe_int) pa_nil))
        (blkOk_by (N := ["_law_size_here", "_law_rights", "_law_lefts", "_law_outs", "_law_gone", "_law_first", "_law_second", "_law_node"]) (sc := defScope st_ldum) (by decide +kernel)) (fun _ _ _ _ _ => pg_name (i := 7) sc_ldum.nd rfl (Or.inl rfl)) (fun _ _ _ _ _ => pts_nil)
        (fun _ _ _ _ _ => pe_callTy call_strI (by rfl) T.n_str (by decide +kernel) (pa_cons (pe_ix ix_list (pv 1) (pv 7) (fun _ _ => rfl)) pa_nil)))))
      (pss_cons (ps_set (i := 6) sc_ldum.nd rfl (.inl rfl) (pe_join pe_str (pe_lc (own := [("_law_node", 7)]) (g := gName 7) (tt := tYes) (te := tCB rStrI (tCons (tOp (rIxL K) (tVar 2) (tOp (rI0 fun i j => .int (i + j)) (tVar 7) (tC (.int 1)))) tNil)) rfl sc_ldum.nd (pi_range1 (by rfl) T.n_range (pa_cons (pe_op op_add (pv 0) pe_int) pa_nil))
        (blkOk_by (N := ["_law_size_here", "_law_rights", "_law_lefts", "_law_outs", "_law_gone", "_law_first", "_law_second", "_law_node"]) (sc := defScope st_ldum) (by decide +kernel)) (fun _ _ _ _ _ => pg_name (i := 7) sc_ldum.nd rfl (Or.inl rfl)) (fun _ _ _ _ _ => pts_nil)
        (fun _ _ _ _ _ => pe_callTy call_strI (by rfl) T.n_str (by decide +kernel) (pa_cons (pe_ix ix_list (pv 2) (pe_op op_add (pv 7) pe_int) (fun _ _ => rfl)) pa_nil)))))
      (pss_one (ps_ret (pe_op op_add_str (pe_op op_add_str (pe_op op_add_str (pe_op op_add_str (pv 5) pe_str) (pv 6)) pe_str) (pe_join pe_str (pv 4)))))))), ?_⟩
    have hsp : ((" " : Str)).length = 1 := by decide +kernel
    have hbar : ((" | " : Str)).length = 3 := by decide +kernel
    refine ⟨_, rfl, _, _, rfl, rfl, 1, (n : Int) + 1, rfl, ⟨by decide, by decide, by omega, by omega⟩, fun D3 hD3 => ?_⟩
    refine lc_range (lo := 1) (n := ((n : Int) + 1 - 1).toNat) (fun i H3 => H3 = upd H D3 (.lst (((gone i f).map num).map V.str))) (by simp [gone]) ?_ ?_
    · rintro i H3 hi rfl
      have hi' : i < n := by omega
      have s3 : Same H (upd H D3 (.lst (((gone i f).map num).map V.str))) := same_upd (Same.refl _) hD3
      obtain ⟨x, hx⟩ := get_some (l := f) (i := i + 1) (by omega)
      have gx : f.getD (i + 1) false = x := by rw [List.getD_eq_getElem?_getD, hx]; rfl
      rw [show (1 : Int) + (i : Int) = ((i + 1 : Nat) : Int) from by omega]
      refine ⟨rfl, _, rfl, _, rfl, pf, _, _, _, rfl, rfl, .inl (.inl (s3 _ _ hpf)), at_map hx, x, rfl, ?_⟩
      have gl := gone_len (n := i) (f := f)
      cases x with
      | true =>
        refine iteT ⟨_, rfl, _, rfl, num_log (by omega) (by omega), _, upd_same, ?_, ?_⟩
        · rw [List.length_map, List.length_map]
          exact small1000 (by omega)
        · rw [upd_upd, gone_next, if_pos gx]
          simp [num]
      | false =>
        refine iteF ?_
        rw [gone_next, if_neg (by rw [gx]; simp), List.append_nil]
    rintro H3 rfl
    rw [show ((n : Int) + 1 - 1).toNat = n from by omega]
    have s3 : Same H (upd H D3 (.lst (((gone n f).map num).map V.str))) := same_upd (Same.refl _) hD3
    have d3 : (upd H D3 (.lst (((gone n f).map num).map V.str))) D3 = some (.lst (((gone n f).map num).map V.str)) := upd_same
    generalize upd H D3 (.lst (((gone n f).map num).map V.str)) = H3 at *
    have gl := gone_len (n := n) (f := f)
    dsimp only [gName]
    change tSeq (tIfS _ _ _) ?tR ?tD _ _
    have tail : ∀ (p4 : Addr) (ys : List Str) (H4 : Hp), Same H H4 → H4 p4 = some (.lst (ys.map V.str)) → Txt.join (" " : Str) ys = gtx n f → (ys.map (·.length)).sum + ys.length * ((" " : Str)).length ≤ 16777216 →
        ?tR ?tD [some (.int n), some (.ref pr), some (.ref pl), some (.ref pf), some (.ref p4), none, none, none] H4 := by
      intro p4 ys H4 s4 d4 ej el
      refine ⟨⟨_, rfl⟩, _, rfl, _, _, rfl, rfl, _, rfl, by omega, by omega, ?_⟩
      rw [show ((n : Int) + 1).toNat = n + 1 from by omega]
      intro D5 hD5
      refine lc_pure (fun i => V.str (num (r.getD i 0))) hD5 (small1000 (by omega)) (fun i H' R hi sm q => ?_) ?_
      · have hg := getD_at (l := r) (i := i) (by omega)
        have hb := W.rs _ (List.mem_of_getElem? hg)
        rw [show (0 : Int) + (i : Int) = (i : Int) from by omega]
        exact ⟨rfl, _, rfl, _, rfl, pr, _, _, _, rfl, rfl, .inl (.inl (sm _ _ (s4 _ _ hpr))), at_map hg, _, rfl, num_log hb.1 hb.2, q⟩
      rw [range_get lr]
      refine ⟨_, D5, r.map num, rfl, rfl, .inl (.inl (.inl upd_same)), ?_, ?_⟩
      · have := num_lens W.rs
        rw [hsp, List.length_map]
        omega
      have s5 := same_upd (o := .lst ((r.map num).map V.str)) (Same.refl H4) hD5
      generalize upd H4 D5 (.lst ((r.map num).map V.str)) = H5 at *
      refine ⟨⟨_, rfl⟩, _, rfl, _, _, rfl, rfl, _, rfl, by omega, by omega, ?_⟩
      rw [show ((n : Int) + 1).toNat = n + 1 from by omega]
      intro D6 hD6
      refine lc_pure (fun i => V.str (num ((l.drop 1).getD i 0))) hD6 (small1000 (by omega)) (fun i H' R hi sm q => ?_) ?_
      · have hg := getD_at (l := l.drop 1) (i := i) (by rw [List.length_drop]; omega)
        have hb := W.ls _ (List.mem_of_getElem? hg)
        have hg' : l[i + 1]? = some ((l.drop 1).getD i 0) := by
          rw [List.getElem?_drop, Nat.add_comm] at hg
          exact hg
        rw [show (0 : Int) + (i : Int) = (i : Int) from by omega]
        refine ⟨rfl, _, rfl, _, rfl, _, _, rfl, rfl, pl, _, _, _, rfl, rfl, .inl (.inl (sm _ _ (s5 _ _ (s4 _ _ hpl)))), at_map (i := i + 1) hg', _, rfl, num_log hb.1 hb.2, q⟩
      rw [range_get (by rw [List.length_drop]; omega)]
      refine ⟨_, D6, (l.drop 1).map num, rfl, rfl, .inl (.inl (.inl upd_same)), ?_, ?_⟩
      · have := num_lens W.ls
        rw [List.length_drop] at this
        rw [hsp, List.length_map, List.length_drop]
        omega
      have s6 := same_upd (o := .lst (((l.drop 1).map num).map V.str)) (Same.refl H5) hD6
      generalize upd H5 D6 (.lst (((l.drop 1).map num).map V.str)) = H6 at *
      have h1 := ptx_len W.rs
      have h2 := ptx_len W.ls
      have h3 := gtx_len (f := f) W.hn
      rw [List.length_drop] at h2
      refine ⟨_, rfl, _, _, rfl, rfl, (by show (ptx r).length + _ ≤ 16777216; rw [hbar]; omega), _, rfl, _, _, rfl, rfl, (by show (ptx r ++ (" | " : Str)).length + (ptx (l.drop 1)).length ≤ 16777216; rw [app_len, hbar]; omega), ?_⟩
      refine ⟨_, _, rfl, rfl, (by show (ptx r ++ (" | " : Str) ++ ptx (l.drop 1)).length + _ ≤ 16777216; rw [app_len, app_len, hbar]; omega), ?_⟩
      refine ⟨⟨_, rfl⟩, _, rfl, _, p4, ys, rfl, rfl, .inl (.inl (.inl (s6 _ _ (s5 _ _ d4)))), el, ?_⟩
      rw [ej]
      refine ⟨_, _, rfl, rfl, (by show (ptx r ++ (" | " : Str) ++ ptx (l.drop 1) ++ (" | " : Str)).length + (gtx n f).length ≤ 16777216; rw [app_len, app_len, app_len, hbar]; omega), ?_⟩
      have := k H6 (fun q o e => s6 _ _ (s5 _ _ (s4 _ _ e)))
      rw [← dmp_cat] at this
      exact this
    refine ⟨_, rfl, (by show 0 ≤ sizeLine; decide), fun q hq => ?_⟩
    have sq := same_upd (o := .lst []) (Same.refl H3) hq
    refine rd_strs (gone_small hn) (sq _ _ d3) upd_same ⟨_, rfl, ?_⟩
    by_cases hg : gone n f = []
    · rw [decide_eq_true hg]
      refine iteT ⟨(by show 1 ≤ sizeLine; decide), fun t ht => ?_⟩
      refine tail t [nonE] _ (s3.trans (sq.trans (same_upd (Same.refl _) ht))) upd_same ?_ ?_
      · rw [show gtx n f = nonE from if_pos hg]
        refine ext_tl ?_
        rw [join_eq, tl_join]
        rfl
      · have : nonE.length = 4 := by decide +kernel
        simp only [List.map_cons, List.map_nil, List.sum_cons, List.sum_nil, List.length_cons, List.length_nil]
        omega
    · rw [decide_eq_false hg]
      refine iteF (tail D3 ((gone n f).map num) _ (s3.trans sq) (sq _ _ d3) ?_ ?_)
      · rw [show gtx n f = ptx (gone n f) from if_neg hg]
        rfl
      · have := num_lens (gone_small (n := n) (f := f) hn)
        rw [hsp, List.length_map]
        omega
/-! ### the law's own step -/
def Hwr (H : Hp) (pr pl pf : Addr) (r l : List Int) (f : List Bool) (k lo hi : Nat) (o : Bool) : Hp :=
  upd (upd (upd H pf (.lst ((f.set k o).map V.bl))) pr (.lst ((nr r k lo hi o).map V.int))) pl (.lst ((nl l k lo hi o).map V.int))
def spLwri : Sp := fun vs H Q _ => ∃ (pr pl pf : Addr) (n : Nat) (r l : List Int) (f : List Bool) (op : Int) (k lo hi : Nat), vs = [.ref pr, .ref pl, .ref pf, .int op] ∧ Wld n r l f ∧ H pr = some (.lst (r.map V.int)) ∧ H pl = some (.lst (l.map V.int)) ∧
  H pf = some (.lst (f.map V.bl)) ∧ pr ≠ pl ∧ pr ≠ pf ∧ pl ≠ pf ∧ ab op = k ∧ 1 ≤ k ∧ k ≤ n ∧ l[k]? = some (lo : Int) ∧ r[k]? = some (hi : Int) ∧ lo < k ∧ hi ≤ n + 1 ∧ Q .non (Hwr H pr pl pf r l f k lo hi (decide (op < 0)))
theorem sc_lwri : FnScope ["_law_rights", "_law_lefts", "_law_outs", "_law_operation_here", "_law_node", "_law_low", "_law_high"] ["_law_rights", "_law_lefts", "_law_outs", "_law_operation_here"] (defScope st_lwri) := ⟨rfl, rfl, rfl, by decide +kernel, rfl, by decide +kernel, by decide +kernel⟩
theorem ok_lwri (T : Txt K mg a) : Ok PW w K mg base CX0 1 a.lwri ["_law_rights", "_law_lefts", "_law_outs", "_law_operation_here"] spLwri := by
  refine ok_of T.d_lwri fun fd F => F.ok sc_lwri (fun vs H Q E h => ?_) (fun cdv A outer s H vs Q E hr h => ?_)
  · obtain ⟨pr, pl, pf, n, r, l, f, op, k, lo, hi, rfl, _⟩ := h
    rfl
  · obtain ⟨pr, pl, pf, n, r, l, f, op, k, lo, hi, rfl, W, hr1, hl1, hf1, erl, erf, elf, hk, k1, k2, hl, hh, b1, b3, kq⟩ := h
    have lr := W.lr
    have ll := W.ll
    have lf := W.lf
    refine ⟨_, pss_cons (ps_set (i := 4) sc_lwri.nd rfl (.inl rfl) (pe_callB call_abs (by rfl) T.n_abs (by decide +kernel) (pa_cons (pv 3) pa_nil)))
      (pss_cons (ps_set (i := 5) sc_lwri.nd rfl (.inl rfl) (pe_ix ix_list (pv 1) (pv 4) (fun _ _ => rfl)))
      (pss_cons (ps_set (i := 6) sc_lwri.nd rfl (.inl rfl) (pe_ix ix_list (pv 0) (pv 4) (fun _ _ => rfl)))
      (pss_cons (ps_asg (pe_cmpR op_lt (pv 3) pe_int (nomark _)) (pg_sub (pv 2) (pv 4) set_list))
      (pss_one (ps_if (pt_cmpR op_lt (pv 3) pe_int (nomark _))
        (pss_cons (ps_asg (pv 6) (pg_sub (pv 0) (pv 5) set_list)) (pss_one (ps_asg (pv 5) (pg_sub (pv 1) (pv 6) set_list))))
        (pss_cons (ps_asg (pv 4) (pg_sub (pv 0) (pv 5) set_list)) (pss_one (ps_asg (pv 4) (pg_sub (pv 1) (pv 6) set_list))))))))), ?_⟩
    refine ⟨_, rfl, _, rfl, ?_⟩
    dsimp only
    rw [show (if op < 0 then -op else op) = (k : Int) from hk]
    refine ⟨_, rfl, _, rfl, pl, _, _, _, rfl, rfl, .inl (.inl hl1), at_map hl, ?_⟩
    refine ⟨_, rfl, _, rfl, pr, _, _, _, rfl, rfl, .inl (.inl hr1), at_map hh, ?_⟩
    refine ⟨_, rfl, _, _, rfl, rfl, _, rfl, _, rfl, pf, _, _, k, rfl, rfl, hf1, ixN_nat (by rw [List.length_map]; omega), ?_⟩
    refine ⟨_, rfl, _, _, rfl, rfl, _, rfl, ?_⟩
    have fin : ∀ vr vl : Int, vr = (if decide (op < 0) = true then (hi : Int) else (k : Int)) → vl = (if decide (op < 0) = true then (lo : Int) else (k : Int)) →
        Q .non (upd (upd (upd H pf (.lst ((f.map V.bl).set k (.bl (decide (op < 0)))))) pr (.lst ((r.map V.int).set lo (.int vr)))) pl (.lst ((l.map V.int).set hi (.int vl)))) := by
      rintro vr vl rfl rfl
      have := kq
      unfold Hwr nr nl at this
      rw [← List.map_set, ← List.map_set, ← List.map_set]
      exact this
    refine ite2 (fun c => ?_) (fun c => ?_)
    · refine ⟨_, rfl, _, rfl, _, rfl, pr, _, _, lo, rfl, rfl, (by rw [upd_ne erf]; exact hr1), ixN_nat (by rw [List.length_map]; omega), ?_⟩
      refine ⟨_, rfl, _, rfl, _, rfl, pl, _, _, hi, rfl, rfl, (by rw [upd_ne (Ne.symm erl), upd_ne elf]; exact hl1), ixN_nat (by rw [List.length_map]; omega), ?_⟩
      exact fin hi lo (by rw [if_pos c]) (by rw [if_pos c])
    · refine ⟨_, rfl, _, rfl, _, rfl, pr, _, _, lo, rfl, rfl, (by rw [upd_ne erf]; exact hr1), ixN_nat (by rw [List.length_map]; omega), ?_⟩
      refine ⟨_, rfl, _, rfl, _, rfl, pl, _, _, hi, rfl, rfl, (by rw [upd_ne (Ne.symm erl), upd_ne elf]; exact hl1), ixN_nat (by rw [List.length_map]; omega), ?_⟩
      exact fin k k (by rw [if_neg c]) (by rw [if_neg c])
end
end LL
namespace LL
open PySem PySem.Spec PyProof.Rows L2 TL
section
variable {w : World} {K : PySem.W.Frag} {mg : Str → Option Value} {base : Heap} {a : Ad}
/-! ### rules by a def's promise -/
section
variable {X : Cx} {CX : CXT} {k : Nat} {f C : Addr} {ps : List Str} {sp : Sp} {E : XK} {ES : L2.St → XK} {x m : Str} {p pos apos : Pos} {e o : Expr} {es : List Expr} {ta : TE} {t : TA}
theorem call_lenOk (c : Spc X.K C "__len__" f) (D : Ok X.prog X.w X.K X.mg X.base CX k f ps sp) (hr : Room (k + 1) X.A) (hx : Passes CX X E) : CallR X (.builtin "len") (rLenO C sp E) :=
  let ⟨_, F, b, _⟩ := D
  call_lenO c F hr b hx
theorem call_strOk (c : Spc X.K C "__str__" f) (D : Ok X.prog X.w X.K X.mg X.base CX k f ps sp) (hr : Room (k + 2) X.A) (hx : Passes CX X E) : CallR X (.type "str") (rStrO C sp E) :=
  let ⟨_, F, b, _⟩ := D
  call_strO c F hr b hx
theorem op_eqOk (c : Spc X.K C "__eq__" f) (D : Ok X.prog X.w X.K X.mg X.base CX k f ps sp) (hr : Room k X.A) (hx : Passes CX X E) : OpR X (compareOp .Eq) (rEqO X.K C sp E) :=
  let ⟨_, F, b, _⟩ := D
  op_eqO c F hr b hx
theorem pe_meS {pl : Sem Bool} (he : PE X o ta) (c : Cls X.K C) (hm : Meth X.K C m f) (D : Ok X.prog X.w X.K X.mg X.base CX k f ps sp) (hr : Room k X.A) (hx : ∀ σ, PassesAt CX X σ (ES σ)) (ha : PA X (e :: es) t)
    (hst : starEach (e :: es) X.env = (false, eval e X.env) :: starEach es X.env := by rfl) (hpl : (backTo pos (starEach es X.env)).any (·.1) = false := by rfl)
    (ht : eval (.Call (.Attribute o m apos) (e :: es) [] pos) X.env = (do
      let ov ← eval o X.env
      standAt apos.atName
      let (f, first) ← holding [ov] (getMethod ov m pl)
      callWith pos f first (backTo pos (starEach (e :: es) X.env)) (backToKw pos (keywordEach [] X.env))) := by rfl) : PE X (.Call (.Attribute o m apos) (e :: es) [] pos) (tMethS C m sp ES ta t) := by
  obtain ⟨fd, F, b, _⟩ := D
  exact pe_methS he c hm F hr b hx ha hst hpl ht
theorem pe_maS (M : Mk X.K C f) (D : Ok X.prog X.w X.K X.mg X.base CX k f ps sp) (hr : Room (k + 1) X.A) (hm : X.mg x = some (.ref C)) (hx : ∀ σ, PassesAt CX X σ (ES σ)) (ha : PA X (e :: es) t) (hg : Gl X x := by rfl)
    (hdb : (x == ("__debug__" : Str)) = false := by decide) (he : starEach (e :: es) X.env = (false, eval e X.env) :: starEach es X.env := by rfl) (hpl : (backTo pos (starEach es X.env)).any (·.1) = false := by rfl) : PE X (.Call (.Name x p) (e :: es) [] pos) (tMakeS C sp ES t) := by
  obtain ⟨fd, F, b, _⟩ := D
  exact pe_makeS M F hr hg hm b hx ha hdb he hpl
/-- isinstance of what is handled, whatever its class is -/
def rIsE (K : PySem.W.Frag) (cls : Value) (d : Option Addr) (a : Addr) : List V → Hp → VK → Prop := fun xs H Q => ∃ D dd, cls = .ref D ∧ d = some dd ∧ L2.ExcC K D ∧ rIsD K D a dd xs H Q
theorem call_isE {a : Addr} {cls : Value} {d : Option Addr} {oe : Obj} {pn : List (Addr × Obj)} (hz : Zc cls d oe) (hf : ∃ vs, oe.data = .fields vs) : CallR (X.suite a ((a, oe) :: pn)) (.builtin "isinstance") (rIsE X.K cls d a) := by
  intro pins s σ H xs us Q I r h
  obtain ⟨D, dd, rfl, rfl, c, h⟩ := h
  exact call_isD c hz hf pins s σ H xs us Q I r h
end
/-! ### shown -/
def spLsho (C : Addr) : Sp := fun vs H Q _ => ∃ (p pa pb pc pr pl pf : Addr) (n : Nat) (r l : List Int) (f : List Bool), vs = [.ref p, .int n, .ref pr, .ref pl, .ref pf] ∧ LkAt C H p pa pb pc n r l f ∧ Wld n r l f ∧
  H pr = some (.lst (r.map V.int)) ∧ H pl = some (.lst (l.map V.int)) ∧ H pf = some (.lst (f.map V.bl)) ∧ ∀ H', Same H H' → Q (.bl true) H'
theorem sc_lsho : FnScope ["_law_links", "_law_size_here", "_law_rights", "_law_lefts", "_law_outs", "_law_text", "_law_told", "_law_node", "_law_gone"] ["_law_links", "_law_size_here", "_law_rights", "_law_lefts", "_law_outs"] (defScope st_lsho) := ⟨rfl, rfl, rfl, by decide +kernel, rfl, by decide +kernel, by decide +kernel⟩
theorem ok_lsho (T : Txt K mg a) : Ok PW w K mg base CX0 5 a.lsho ["_law_links", "_law_size_here", "_law_rights", "_law_lefts", "_law_outs"] (spLsho a.L) := by
  refine ok_of T.d_lsho fun fd F => F.ok sc_lsho (fun vs H Q E h => ?_) (fun cdv A outer s H vs Q E hr h => ?_)
  · obtain ⟨p, pa, pb, pc, pr, pl, pf, n, r, l, f, rfl, _⟩ := h
    rfl
  · obtain ⟨p, pa, pb, pc, pr, pl, pf, n, r, l, f, rfl, lk, W, hpr, hpl, hpf, k⟩ := h
    have lr := W.lr
    have ll := W.ll
    have lf := W.lf
    have hn := W.hn
    have h1 := hr.mono (show 1 ≤ 4 by decide)
    refine ⟨_, pss_cons (ps_set (i := 5) sc_lsho.nd rfl (.inl rfl) (pe_ca (ok_ldum T) h1 T.g_ldum pass0 (pa_cons (pv 1) (pa_cons (pv 2) (pa_cons (pv 3) (pa_cons (pv 4) pa_nil))))))
      (pss_cons (ps_set (i := 6) sc_lsho.nd rfl (.inl rfl) (pe_me0 (pv 0) T.clL T.m_dum (ok_dum T) (hr.mono (show 2 ≤ 4 by decide)) pass0))
      (pss_cons (ps_if (PW.pt (pw_or (pt_not (pt_val (pe_ca (ok_lis T) h1 T.g_lis pass0 (pa_cons (pe_fld (pv 0) rfl) (pa_cons (pv 1) pa_nil))))) (pw_or1 (pt_cmpR op_ne (pe_callB (call_lenOk T.m_sle (ok_sle T) (hr.mono (show 2 ≤ 4 by decide)) pass0) (by rfl) T.n_len PySem.boot_len (pa_cons (pv 0) pa_nil)) (pv 1) (nomark _)))))
        (pss_one (ps_ret pe_bl)) pss_nil)
      (pss_cons (ps_if (PW.pt (pw_or (pt_not (pt_val (pe_callB call_isi (by rfl) T.n_isinstance (by decide +kernel) (pa_cons (pv 6) (pa_cons (pe_bltn (v := .ty "str") (by rfl) T.n_str (by decide +kernel) rfl) pa_nil)))))
          (pw_or (pt_cmpR op_ne (pv 6) (pv 5) (nomark _)) (pw_or1 (pt_cmpR op_ne (pe_callTy (call_strOk T.m_sst (ok_sst T) hr pass0) (by rfl) T.n_str (by decide +kernel) (pa_cons (pv 0) pa_nil)) (pv 5) (nomark _))))))
        (pss_one (ps_ret pe_bl)) pss_nil)
      (pss_cons (ps_for PassesOwn.never rfl (pi_range1 (by rfl) T.n_range (pa_cons (pe_op op_add (pv 1) pe_int) pa_nil)) (pg_name (i := 7) sc_lsho.nd rfl (Or.inl rfl))
        (pss_cons (ps_if (pt_not (pt_val (pe_ca (ok_lis T) h1 T.g_lis pass0 (pa_cons (pe_me (pv 0) T.clL T.m_rig (ok_rig T) h1 passL (pa_cons (pv 7) pa_nil)) (pa_cons (pe_ix ix_list (pv 2) (pv 7) (fun _ _ => rfl)) pa_nil))))) (pss_one (ps_ret pe_bl)) pss_nil)
        (pss_one (ps_if (pt_not (pt_val (pe_ca (ok_lis T) h1 T.g_lis pass0 (pa_cons (pe_me (pv 0) T.clL T.m_lef (ok_lef T) h1 passL (pa_cons (pe_op op_add (pv 7) pe_int) pa_nil)) (pa_cons (pe_ix ix_list (pv 3) (pe_op op_add (pv 7) pe_int) (fun _ _ => rfl)) pa_nil))))) (pss_one (ps_ret pe_bl)) pss_nil))))
      (pss_cons (ps_for PassesOwn.never rfl (pi_range1 (by rfl) T.n_range (pa_cons (pe_op op_add (pv 1) pe_int) pa_nil)) (pg_name (i := 7) sc_lsho.nd rfl (Or.inl rfl))
        (pss_cons (ps_set (i := 8) sc_lsho.nd rfl (.inl rfl) (pe_me (pv 0) T.clL T.m_iso (ok_iso T) h1 passL (pa_cons (pv 7) pa_nil)))
        (pss_one (ps_if (PW.pt (pw_or (pt_not (pt_val (pe_callB call_isi (by rfl) T.n_isinstance (by decide +kernel) (pa_cons (pv 8) (pa_cons (pe_bltn (v := .ty "bool") (by rfl) T.n_bool (by decide +kernel) rfl) pa_nil)))))
          (pw_or1 (pt_cmpR op_ne (pv 8) (pe_ix ix_list (pv 4) (pv 7) (fun _ _ => rfl)) (nomark _))))) (pss_one (ps_ret pe_bl)) pss_nil))))
      (pss_one (ps_ret pe_bl))))))), ?_⟩
    refine ⟨_, rfl, _, rfl, _, rfl, _, rfl, pr, pl, pf, n, r, l, f, rfl, W, hpr, hpl, hpf, fun H1 s1 => ?_⟩
    have lk1 := lk.same s1
    obtain ⟨dx, hp1⟩ := lk1.ob
    refine ⟨_, rfl, p, dx, _, rfl, hp1, rfl, p, pa, pb, pc, n, r, l, f, rfl, lk1, W, fun H2 s2 => ?_⟩
    have lk2 := lk1.same s2
    have hp2 := s2 _ _ hp1
    refine ⟨_, rfl, p, a.L, dx, _, _, rfl, hp2, T.clL, T.nL_size, rfl, _, rfl, n, n, rfl, _, rfl, ?_⟩
    rw [decide_eq_true rfl]
    refine iteF ⟨_, rfl, p, dx, _, rfl, hp2, p, pa, pb, pc, n, r, l, f, rfl, lk2, lf, fun H3 s3 => ⟨(n : Int), rfl, by omega, by omega, ?_⟩⟩
    have lk3 := lk2.same s3
    have hp3 := s3 _ _ hp2
    refine ⟨_, rfl, rfl, _, rfl, ?_⟩
    rw [decide_eq_true rfl]
    refine iteF ?_
    refine ⟨_, rfl, _, _, _, _, _, rfl, .ty _, .base (.str _), kit_ty (r := true) (by decide +kernel), _, rfl, iteF ?_⟩
    refine ⟨_, rfl, _, rfl, rfl, _, rfl, ?_⟩
    rw [decide_eq_true rfl]
    refine iteF ⟨_, rfl, p, dx, _, rfl, hp3, p, pa, pb, pc, n, r, l, f, rfl, lk3, W, fun H4 s4 => ⟨_, rfl, ?_⟩⟩
    have lk4 := lk3.same s4
    have hp4 := s4 _ _ hp3
    have s14 : Same H H4 := ((s1.trans s2).trans s3).trans s4
    refine ⟨_, rfl, rfl, _, rfl, ?_⟩
    rw [decide_eq_true rfl]
    refine iteF ?_
    refine ⟨_, rfl, _, _, rfl, rfl, _, rfl, by omega, by omega, ?_⟩
    refine for_range (lo := 0) (n := ((n : Int) + 1).toNat) (fun _ σ H5 => (∃ y z, σ = [some (.ref p), some (.int n), some (.ref pr), some (.ref pl), some (.ref pf), some (.str (dmp n r l f)), some (.str (dmp n r l f)), y, z]) ∧ H5 = H4) ⟨⟨_, _, rfl⟩, rfl⟩ ?_ ?_
    · rintro i σ H5 hi ⟨⟨y, z, rfl⟩, rfl⟩
      rw [show (0 : Int) + (i : Int) = (i : Int) from by omega]
      obtain ⟨x1, e1⟩ := get_some (l := r) (i := i) (by omega)
      obtain ⟨x2, e2⟩ := get_some (l := l) (i := i + 1) (by omega)
      refine ⟨_, rfl, p, dx, _, rfl, hp4, rfl, _, rfl, p, pa, pb, pc, n, r, l, f, i, rfl, lk4, lr, fun v x ev _ hx => ?_, fun q => absurd ⟨by omega, by omega⟩ q⟩
      obtain rfl : i = v := by omega
      rw [e1] at hx
      cases hx
      refine ⟨_, rfl, _, rfl, pr, _, _, _, rfl, rfl, .inl (.inl (s14 _ _ hpr)), at_map e1, x1, x1, rfl, _, rfl, ?_⟩
      rw [decide_eq_true rfl]
      refine iteF ?_
      refine ⟨_, rfl, p, dx, _, rfl, hp4, rfl, _, rfl, _, _, rfl, rfl, p, pa, pb, pc, n, r, l, f, (i : Int) + 1, rfl, lk4, ll, fun v x ev _ _ hx => ?_, fun q => absurd ⟨by omega, by omega⟩ q⟩
      obtain rfl : i + 1 = v := by omega
      rw [e2] at hx
      cases hx
      refine ⟨_, rfl, _, rfl, _, _, rfl, rfl, pl, _, _, _, rfl, rfl, .inl (.inl (s14 _ _ hpl)), at_map (i := i + 1) e2, x2, x2, rfl, _, rfl, ?_⟩
      rw [decide_eq_true rfl]
      exact iteF ⟨⟨_, _, rfl⟩, rfl⟩
    rintro σ H5 ⟨⟨y, z, rfl⟩, rfl⟩
    refine ⟨_, rfl, _, _, rfl, rfl, _, rfl, by omega, by omega, ?_⟩
    refine for_range (lo := 0) (n := ((n : Int) + 2).toNat) (fun _ σ H6 => (∃ y z, σ = [some (.ref p), some (.int n), some (.ref pr), some (.ref pl), some (.ref pf), some (.str (dmp n r l f)), some (.str (dmp n r l f)), y, z]) ∧ H6 = H5) ⟨⟨_, _, rfl⟩, rfl⟩ ?_ ?_
    · rintro i σ H6 hi ⟨⟨y, z, rfl⟩, rfl⟩
      rw [show (0 : Int) + (i : Int) = (i : Int) from by omega]
      obtain ⟨x1, e1⟩ := get_some (l := f) (i := i) (by omega)
      refine ⟨_, rfl, p, dx, _, rfl, hp4, rfl, _, rfl, p, pa, pb, pc, n, r, l, f, i, rfl, lk4, lf, fun v x ev _ hx => ?_, fun q => absurd ⟨by omega, by omega⟩ q⟩
      obtain rfl : i = v := by omega
      rw [e1] at hx
      cases hx
      refine ⟨_, rfl, _, _, _, _, _, rfl, .ty _, .base (.bl _), kit_ty (r := true) (by decide +kernel), _, rfl, iteF ?_⟩
      refine ⟨_, rfl, _, rfl, _, rfl, pf, _, _, _, rfl, rfl, .inl (.inl (s14 _ _ hpf)), at_map e1, rfl, _, rfl, ?_⟩
      rw [decide_eq_true rfl]
      exact iteF ⟨⟨_, _, rfl⟩, rfl⟩
    rintro σ H6 ⟨⟨y, z, rfl⟩, rfl⟩
    exact k _ s14
end
end LL
namespace LL
open PySem PySem.Spec PyProof.Rows L2 TL
section
variable {w : World} {K : PySem.W.Frag} {mg : Str → Option Value} {base : Heap} {a : Ad}
/-! ### BadNode -/
def isE (K : PySem.W.Frag) (cls : Value) (d : Option Addr) (x : Addr) (i : Nat) (v : V) : TE := tCB (rIsE K cls d x) (tCons (tVar i) (tCons (tC v) tNil))
def tsLnr (K : PySem.W.Frag) (a : Ad) (x : Addr) (cls : Value) (d : Option Addr) : TS :=
  tSeq (tIfS (tOr (tB (isE K cls d x 3 (.ref a.BG))) (tB (isE K cls d x 3 (.ref a.BS)))) (tRet (tC (.bl false))) tNext)
  (tSeq (tIfS (tOr (tB (isE K cls d x 3 (.ref a.LO))) (tNot (tB (isE K cls d x 3 (.ref a.LI))))) (tRet (tC (.bl false))) tNext)
  (tRet (tAndV (isE K cls d x 3 (.ty "ValueError")) (tCall spLis [] E0 (tCons (tXf x cls d a.BN "node" (tVar 3)) (tCons (tVar 2) tNil))))))
theorem rd_tsLnr (T : Txt K mg a) {x d : Addr} {H : Hp} {D : Ends} {z : Int} {v0 v1 : Option V} (hd : H d = some (.xd [(("node" : Str), .int z)])) (k : D.rt (.bl true) H) :
    tsLnr K a x (.ref a.BN) (some d) D [v0, v1, some (.int z), some (.ref x)] H := by
  refine ⟨_, rfl, a.BN, d, rfl, rfl, T.c_BN, _, _, _, _, rfl, (fun u h => h), hd, T.k_BN_BG, _, rfl, iteF ?_⟩
  refine ⟨_, rfl, a.BN, d, rfl, rfl, T.c_BN, _, _, _, _, rfl, (fun u h => h), hd, T.k_BN_BS, _, rfl, iteF ?_⟩
  refine ⟨_, rfl, a.BN, d, rfl, rfl, T.c_BN, _, _, _, _, rfl, (fun u h => h), hd, T.k_BN_LO, _, rfl, iteF ?_⟩
  refine ⟨_, rfl, a.BN, d, rfl, rfl, T.c_BN, _, _, _, _, rfl, (fun u h => h), hd, T.k_BN_LI, _, rfl, iteF ?_⟩
  refine ⟨_, rfl, a.BN, d, rfl, rfl, T.c_BN, _, _, _, _, rfl, (fun u h => h), hd, T.k_BN_VE, _, rfl, iteT ?_⟩
  exact ⟨_, rfl, rfl, rfl, d, _, _, rfl, hd, rfl, _, rfl, z, z, rfl, q_true rfl k⟩
def spLnr (C : Addr) : Sp := fun vs H Q _ => ∃ (way : Nat) (z : Int) (p pa pb pc : Addr) (n : Nat) (r l : List Int) (f : List Bool), vs = [.int way, .ref p, .int z] ∧ LkAt C H p pa pb pc n r l f ∧ Wld n r l f ∧
  ((way = 0 ∧ ¬(1 ≤ z ∧ z ≤ n + 1)) ∨ (way = 1 ∧ ¬(0 ≤ z ∧ z ≤ n)) ∨ (way = 2 ∧ ¬(0 ≤ z ∧ z ≤ n + 1))) ∧ ∀ H', Same H H' → Q (.bl true) H'
theorem sc_lnr : FnScope ["_law_way", "_law_links", "_law_node", "raised"] ["_law_way", "_law_links", "_law_node"] (defScope st_lnr) := ⟨rfl, rfl, rfl, by decide +kernel, rfl, by decide +kernel, by decide +kernel⟩
theorem ok_lnr (T : Txt K mg a) : Ok PW w K mg base CX0 2 a.lnr ["_law_way", "_law_links", "_law_node"] (spLnr a.L) := by
  refine ok_of T.d_lnr fun fd F => F.ok sc_lnr (fun vs H Q E h => ?_) (fun cdv A outer s H vs Q E hr h => ?_)
  · obtain ⟨way, z, p, pa, pb, pc, n, r, l, f, rfl, _⟩ := h
    rfl
  · obtain ⟨way, z, p, pa, pb, pc, n, r, l, f, rfl, lk, W, cs, k⟩ := h
    obtain ⟨dx, hp⟩ := lk.ob
    obtain ⟨fi, FI, bI, kI⟩ := ok_lisA (w := w) (base := base) T
    refine ⟨_, pss_cons (ps_try_as (i := 3) (ts := tsLnr K a) (Wout := fun _ _ _ _ => False) (tb := fun W => tIfS (tTest (tOp rEq (tVar 0) (tC (.int 0)))) (tDrop (tMethS a.L "left" (spLef a.L a.BN) (WE W) (tVar 1) (tCons (tVar 2) tNil)))
          (tIfS (tTest (tOp rEq (tVar 0) (tC (.int 1)))) (tDrop (tMethS a.L "right" (spRig a.L a.BN) (WE W) (tVar 1) (tCons (tVar 2) tNil))) (tDrop (tMethS a.L "is_out" (spIso a.L a.BN) (WE W) (tVar 1) (tCons (tVar 2) tNil)))))
        rfl rfl sc_lnr.nd rfl rfl ⟨rfl, by decide, .inl T.g_BN⟩ takes0
        (fun W pn xe tk _ => pss_one (ps_if (pt_cmpR op_eq (pv 0) pe_int (nomark _)) (pss_one (ps_expr (pe_meS (pv 1) T.clL T.m_lef (ok_lef T) hr (fun σ => passAt tk σ) (pa_cons (pv 2) pa_nil))))
          (pss_one (ps_if (pt_cmpR op_eq (pv 0) pe_int (nomark _)) (pss_one (ps_expr (pe_meS (pv 1) T.clL T.m_rig (ok_rig T) hr (fun σ => passAt tk σ) (pa_cons (pv 2) pa_nil)))) (pss_one (ps_expr (pe_meS (pv 1) T.clL T.m_iso (ok_iso T) hr (fun σ => passAt tk σ) (pa_cons (pv 2) pa_nil))))))))
        (fun x oe cls d pn hz hf => pss_cons (ps_if (PW.pt (pw_or (pt_val (pe_callB (call_isE hz hf) (by rfl) T.n_isinstance (by decide +kernel) (pa_cons (pv 3) (pa_cons (pe_glob (v := .ref a.BG) rfl T.g_BG rfl) pa_nil))))
            (pw_or1 (pt_val (pe_callB (call_isE hz hf) (by rfl) T.n_isinstance (by decide +kernel) (pa_cons (pv 3) (pa_cons (pe_glob (v := .ref a.BS) rfl T.g_BS rfl) pa_nil))))))) (pss_one (ps_ret pe_bl)) pss_nil)
          (pss_cons (ps_if (PW.pt (pw_or (pt_val (pe_callB (call_isE hz hf) (by rfl) T.n_isinstance (by decide +kernel) (pa_cons (pv 3) (pa_cons (pe_glob (v := .ref a.LO) rfl T.g_LO rfl) pa_nil))))
            (pw_or1 (pt_not (pt_val (pe_callB (call_isE hz hf) (by rfl) T.n_isinstance (by decide +kernel) (pa_cons (pv 3) (pa_cons (pe_glob (v := .ref a.LI) rfl T.g_LI rfl) pa_nil)))))))) (pss_one (ps_ret pe_bl)) pss_nil)
          (pss_one (ps_ret (pe_and (pe_callB (call_isE hz hf) (by rfl) T.n_isinstance (by decide +kernel) (pa_cons (pv 3) (pa_cons (pe_bltn (v := .ty "ValueError") (by rfl) T.n_ValueError (by decide +kernel) rfl) pa_nil)))
            (pe_one (pe_callA FI (LL.RoomH.suite (L2H.roomH_of hr)) rfl T.g_lis kI bI (pa_cons (pe_xf T.f_BN T.no_BN_node hz hf (pv 3)) (pa_cons (pv 2) pa_nil))))))))))
      (pss_one (ps_ret pe_bl)), ?_⟩
    have suite : ∀ (x d : Addr) (D : Ends) (v0 v1 : Option V), H d = none → (∀ H', Same H H' → D.rt (.bl true) H') → tsLnr K a x (.ref a.BN) (some d) D [v0, v1, some (.int z), some (.ref x)] (upd H d (.xd [(("node" : Str), .int z)])) :=
      fun x d D v0 v1 hd hq => rd_tsLnr T upd_same (hq _ (same_upd (Same.refl _) hd))
    rcases cs with ⟨rfl, hz⟩ | ⟨rfl, hz⟩ | ⟨rfl, hz⟩
    · refine ⟨_, rfl, rfl, _, rfl, iteT ?_⟩
      refine ⟨_, rfl, p, dx, _, rfl, hp, rfl, _, rfl, p, pa, pb, pc, n, r, l, f, z, rfl, lk, W.ll, fun v x e h1 h2 => absurd ⟨by omega, by omega⟩ hz, fun _ d hd => ?_⟩
      exact ⟨true, T.e_BN_BN, fun _ x nx => suite x d _ _ _ hd k, fun q => Bool.noConfusion q⟩
    · refine ⟨_, rfl, rfl, _, rfl, iteF ?_⟩
      refine ⟨_, rfl, rfl, _, rfl, iteT ?_⟩
      refine ⟨_, rfl, p, dx, _, rfl, hp, rfl, _, rfl, p, pa, pb, pc, n, r, l, f, z, rfl, lk, W.lr, fun v x e h1 h2 => absurd ⟨by omega, by omega⟩ hz, fun _ d hd => ?_⟩
      exact ⟨true, T.e_BN_BN, fun _ x nx => suite x d _ _ _ hd k, fun q => Bool.noConfusion q⟩
    · refine ⟨_, rfl, rfl, _, rfl, iteF ?_⟩
      refine ⟨_, rfl, rfl, _, rfl, iteF ?_⟩
      refine ⟨_, rfl, p, dx, _, rfl, hp, rfl, _, rfl, p, pa, pb, pc, n, r, l, f, z, rfl, lk, W.lf, fun v x e h1 h2 => absurd ⟨by omega, by omega⟩ hz, fun _ d hd => ?_⟩
      exact ⟨true, T.e_BN_BN, fun _ x nx => suite x d _ _ _ hd k, fun q => Bool.noConfusion q⟩
end
end LL
namespace LL
open PySem PySem.Spec PyProof.Rows L2 TL
section
variable {w : World} {K : PySem.W.Frag} {mg : Str → Option Value} {base : Heap} {a : Ad}
/-! ### nodes_refused -/
def spLnrs (C : Addr) : Sp := fun vs H Q _ => ∃ (far : Int) (p pa pb pc : Addr) (n : Nat) (r l : List Int) (f : List Bool), vs = [.ref p, .int n, .int far] ∧ 0 ≤ far ∧ LkAt C H p pa pb pc n r l f ∧ Wld n r l f ∧ ∀ H', Same H H' → Q (.bl true) H'
theorem sc_lnrs : FnScope ["_law_links", "_law_size_here", "_law_far", "_law_node", "_law_way"] ["_law_links", "_law_size_here", "_law_far"] (defScope st_lnrs) := ⟨rfl, rfl, rfl, by decide +kernel, rfl, by decide +kernel, by decide +kernel⟩
theorem ok_lnrs (T : Txt K mg a) : Ok PW w K mg base CX0 3 a.lnrs ["_law_links", "_law_size_here", "_law_far"] (spLnrs a.L) := by
  refine ok_of T.d_lnrs fun fd F => F.ok sc_lnrs (fun vs H Q E h => ?_) (fun cdv A outer s H vs Q E hr h => ?_)
  · obtain ⟨far, p, pa, pb, pc, n, r, l, f, rfl, _⟩ := h
    rfl
  · obtain ⟨far, p, pa, pb, pc, n, r, l, f, rfl, hf, lk, W, k⟩ := h
    refine ⟨_, pss_cons (ps_for PassesOwn.never rfl (pi_list (pe_lst (pa_cons (pe_un un_neg pe_int) (pa_cons (pe_op op_sub (pe_un un_neg pe_int) (pv 2)) (pa_cons (pe_op op_add (pv 1) pe_int) (pa_cons (pe_op op_add (pe_op op_add (pv 1) pe_int) (pv 2)) pa_nil)))))) (pg_name (i := 3) sc_lnrs.nd rfl (Or.inl rfl))
        (pss_one (ps_for PassesOwn.never rfl (pi_range1 (by rfl) T.n_range (pa_cons pe_int pa_nil)) (pg_name (i := 4) sc_lnrs.nd rfl (Or.inl rfl))
          (pss_one (ps_if (pt_not (pt_val (pe_ca (ok_lnr T) hr T.g_lnr pass0 (pa_cons (pv 4) (pa_cons (pv 0) (pa_cons (pv 3) pa_nil)))))) (pss_one (ps_ret pe_bl)) pss_nil)))))
      (pss_one (ps_ret (pe_and (pe_ca (ok_lnr T) hr T.g_lnr pass0 (pa_cons pe_int (pa_cons (pv 0) (pa_cons pe_int pa_nil)))) (pe_one (pe_ca (ok_lnr T) hr T.g_lnr pass0 (pa_cons pe_int (pa_cons (pv 0) (pa_cons (pe_op op_add (pv 1) pe_int) pa_nil)))))))), ?_⟩
    refine ⟨_, rfl, _, rfl, _, rfl, _, _, rfl, rfl, _, rfl, _, _, rfl, rfl, _, rfl, _, _, rfl, rfl, _, rfl, _, _, rfl, rfl, (by show 4 ≤ sizeLine; decide), fun q hq => ?_⟩
    refine ⟨q, rfl, ⟨_, .inl (.inl upd_same)⟩, ?_⟩
    have s0 := same_upd (o := .lst [.int (-1), .int (-1 - far), .int ((n : Int) + 2), .int ((n : Int) + 2 + far)]) (Same.refl H) hq
    have hq0 : (upd H q (.lst [.int (-1), .int (-1 - far), .int ((n : Int) + 2), .int ((n : Int) + 2 + far)])) q = some (.lst [.int (-1), .int (-1 - far), .int ((n : Int) + 2), .int ((n : Int) + 2 + far)]) := upd_same
    generalize upd H q (.lst [.int (-1), .int (-1 - far), .int ((n : Int) + 2), .int ((n : Int) + 2 + far)]) = H0 at *
    refine for_list (xs := [.int (-1), .int (-1 - far), .int ((n : Int) + 2), .int ((n : Int) + 2 + far)]) (fun _ σ H1 => (∃ y z, σ = [some (.ref p), some (.int n), some (.int far), y, z]) ∧ Same H0 H1) ⟨⟨_, _, rfl⟩, Same.refl _⟩ ?_ ?_ ?_
    · rintro i σ H1 _ ⟨_, s1⟩
      exact .inl (.inl (s1 _ _ hq0))
    · rintro i x σ H1 hx ⟨⟨y, z, rfl⟩, s1⟩
      have hm := List.mem_of_getElem? hx
      have hz : ∃ z : Int, x = .int z ∧ (z < 0 ∨ (n : Int) + 1 < z) := by
        simp only [List.mem_cons, List.mem_nil_iff, or_false] at hm
        rcases hm with rfl | rfl | rfl | rfl
        · exact ⟨_, rfl, by omega⟩
        · exact ⟨_, rfl, by omega⟩
        · exact ⟨_, rfl, by omega⟩
        · exact ⟨_, rfl, by omega⟩
      obtain ⟨v, rfl, hv⟩ := hz
      refine ⟨3, rfl, by decide, by decide, ?_⟩
      refine for_range (lo := 0) (n := 3) (fun _ σ H2 => (∃ z, σ = [some (.ref p), some (.int n), some (.int far), some (.int v), z]) ∧ Same H0 H2) ⟨⟨_, rfl⟩, s1⟩ ?_ ?_
      · rintro j σ H2 hj ⟨⟨z, rfl⟩, s2⟩
        rw [show (0 : Int) + (j : Int) = (j : Int) from by omega]
        refine ⟨_, rfl, _, rfl, _, rfl, j, v, p, pa, pb, pc, n, r, l, f, rfl, lk.same (s0.trans s2), W, ?_, fun H3 s3 => ⟨_, rfl, iteF ⟨⟨_, rfl⟩, s2.trans s3⟩⟩⟩
        have cj : j = 0 ∨ j = 1 ∨ j = 2 := by omega
        rcases cj with rfl | rfl | rfl
        · exact .inl ⟨rfl, by omega⟩
        · exact .inr (.inl ⟨rfl, by omega⟩)
        · exact .inr (.inr ⟨rfl, by omega⟩)
      · rintro σ H2 ⟨⟨z, rfl⟩, s2⟩
        exact ⟨⟨_, _, rfl⟩, s2⟩
    · rintro σ H1 ⟨⟨y, z, rfl⟩, s1⟩
      have s01 := s0.trans s1
      refine ⟨_, rfl, 0, 0, p, pa, pb, pc, n, r, l, f, rfl, lk.same s01, W, .inl ⟨rfl, by omega⟩, fun H2 s2 => ⟨_, rfl, iteT ?_⟩⟩
      exact ⟨_, rfl, _, rfl, _, _, rfl, rfl, 1, (n : Int) + 1, p, pa, pb, pc, n, r, l, f, rfl, lk.same (s01.trans s2), W, .inr (.inl ⟨rfl, by omega⟩), fun H3 s3 => k _ ((s01.trans s2).trans s3)⟩
/-! ### equal -/
def spLequ (C : Addr) : Sp := fun vs H Q _ => ∃ (p : Addr) (y : V) (c : Bool), vs = [.ref p, y, .bl c] ∧ EqTo C H p y c ∧ Q (.bl true) H
theorem sc_lequ : FnScope ["_law_links", "_law_other", "_law_due", "_law_told"] ["_law_links", "_law_other", "_law_due"] (defScope st_lequ) := ⟨rfl, rfl, rfl, by decide +kernel, rfl, by decide +kernel, by decide +kernel⟩
theorem ok_lequ (T : Txt K mg a) : Ok PW w K mg base CX0 2 a.lequ ["_law_links", "_law_other", "_law_due"] (spLequ a.L) := by
  refine ok_of T.d_lequ fun fd F => F.ok sc_lequ (fun vs H Q E h => ?_) (fun cdv A outer s H vs Q E hr h => ?_)
  · obtain ⟨p, y, c, rfl, _⟩ := h
    rfl
  · obtain ⟨p, y, c, rfl, eq, k⟩ := h
    refine ⟨_, pss_cons (ps_set (i := 3) sc_lequ.nd rfl (.inl rfl) (pe_cmpR (op_eqOk T.m_seq (ok_seq T) hr pass0) (pv 0) (pv 1) (nomark _)))
      (pss_one (ps_ret (pe_and (pe_callB call_isi (by rfl) T.n_isinstance (by decide +kernel) (pa_cons (pv 3) (pa_cons (pe_bltn (v := .ty "bool") (by rfl) T.n_bool (by decide +kernel) rfl) pa_nil))) (pe_one (pe_cmpR op_eq (pv 3) (pv 2) (nomark _)))))), ?_⟩
    have oth : (∃ dx fs, H p = some (.ins a.L dx fs)) ∧ OthT K a.L H y := by
      obtain ⟨pa, pb, pc, n, r, l, f, lk, cs⟩ := eq
      obtain ⟨dx, hp⟩ := lk.ob
      refine ⟨⟨dx, _, hp⟩, ?_⟩
      rcases cs with ⟨q, qa, qb, qc, m, r', l', g, rfl, lq, rfl⟩ | ⟨i, rfl, rfl⟩ | ⟨z, rfl, rfl⟩
      · obtain ⟨dy, hq⟩ := lq.ob
        exact .ins hq
      · exact .int i T.nfi
      · exact .str z T.nfs
    obtain ⟨⟨dx, fs, hp⟩, ot⟩ := oth
    refine ⟨_, rfl, _, rfl, p, dx, fs, rfl, hp, ot, p, y, c, rfl, eq, c, rfl, ?_⟩
    refine ⟨_, rfl, _, _, _, _, _, rfl, .ty _, .base (.bl _), kit_ty (r := true) (by decide +kernel), _, rfl, iteT ?_⟩
    exact ⟨_, rfl, _, rfl, rfl, q_true rfl k⟩
/-! ### a whole list; BadSize -/
def tsLwho (K : PySem.W.Frag) (a : Ad) (x : Addr) (cls : Value) (d : Option Addr) : TS :=
  tSeq (tIfS (tOr (tB (isE K cls d x 6 (.ref a.LO))) (tNot (tB (isE K cls d x 6 (.ref a.LI))))) (tRet (tC (.bl false))) tNext)
  (tRet (tAndV (isE K cls d x 6 (.ty "ValueError")) (tCall spLis [] E0 (tCons (tXf x cls d a.BS "size" (tVar 6)) (tCons (tVar 1) tNil)))))
theorem rd_tsLwho (T : Txt K mg a) {x d : Addr} {H : Hp} {D : Ends} {z : Int} {v0 v2 v3 v4 v5 v7 : Option V} (hd : H d = some (.xd [(("size" : Str), .int z)])) (k : D.rt (.bl true) H) :
    tsLwho K a x (.ref a.BS) (some d) D [v0, some (.int z), v2, v3, v4, v5, some (.ref x), v7] H := by
  refine ⟨_, rfl, a.BS, d, rfl, rfl, T.c_BS, _, _, _, _, rfl, (fun u h => h), hd, T.k_BS_LO, _, rfl, iteF ?_⟩
  refine ⟨_, rfl, a.BS, d, rfl, rfl, T.c_BS, _, _, _, _, rfl, (fun u h => h), hd, T.k_BS_LI, _, rfl, iteF ?_⟩
  refine ⟨_, rfl, a.BS, d, rfl, rfl, T.c_BS, _, _, _, _, rfl, (fun u h => h), hd, T.k_BS_VE, _, rfl, iteT ?_⟩
  exact ⟨_, rfl, rfl, rfl, d, _, _, rfl, hd, rfl, _, rfl, z, z, rfl, q_true rfl k⟩
def spLwho : Sp := fun vs H Q _ => ∃ (n : Nat) (far : Int), vs = [.int n, .int far] ∧ n ≤ 60 ∧ ¬(0 ≤ far ∧ far ≤ 60) ∧ ∀ H', Same H H' → Q (.bl true) H'
theorem sc_lwho : FnScope ["_law_size_here", "_law_far", "_law_links", "_law_rights", "_law_lefts", "_law_outs", "raised", "_law_node"] ["_law_size_here", "_law_far"] (defScope st_lwho) := ⟨rfl, rfl, rfl, by decide +kernel, rfl, by decide +kernel, by decide +kernel⟩
theorem ok_lwho (T : Txt K mg a) : Ok PW w K mg base CX0 6 a.lwho ["_law_size_here", "_law_far"] spLwho := by
  refine ok_of T.d_lwho fun fd F => F.ok sc_lwho (fun vs H Q E h => ?_) (fun cdv A outer s H vs Q E hr h => ?_)
  · obtain ⟨n, far, rfl, _⟩ := h
    rfl
  · obtain ⟨n, far, rfl, hn, hfar, k⟩ := h
    obtain ⟨fi, FI, bI, kI⟩ := ok_lisA (w := w) (base := base) T
    obtain ⟨tm, mo⟩ := T.most
    have h1 := hr.mono (show 1 ≤ 5 by decide)
    refine ⟨_, pss_cons (ps_set (i := 2) sc_lwho.nd rfl (.inl rfl) (pe_ma T.mkL (ok_ini T) (hr.mono (by decide)) T.g_L passL (pa_cons (pv 0) pa_nil)))
      (pss_cons (ps_setLc (i := 3) (own := [("_law_node", 7)]) (g := gName 7) (tt := tYes) rfl sc_lwho.nd rfl rfl (sw_true rfl rfl rfl (by decide +kernel)) (pi_range1 (by rfl) T.n_range (pa_cons (pe_op op_add (pv 0) pe_int) pa_nil))
        (blkOk_by (N := ["_law_size_here", "_law_far", "_law_links", "_law_rights", "_law_lefts", "_law_outs", "raised", "_law_node"]) (sc := defScope st_lwho) (by decide +kernel)) (fun _ _ _ _ _ => pg_name (i := 7) sc_lwho.nd rfl (Or.inl rfl)) (fun _ _ _ _ _ => pts_nil)
        (fun _ _ _ _ _ => pe_op op_add (pv 7) pe_int))
      (pss_cons (ps_setLc (i := 4) (own := [("_law_node", 7)]) (g := gName 7) (tt := tYes) rfl sc_lwho.nd rfl rfl (sw_true rfl rfl rfl (by decide +kernel)) (pi_range1 (by rfl) T.n_range (pa_cons (pe_op op_add (pv 0) pe_int) pa_nil))
        (blkOk_by (N := ["_law_size_here", "_law_far", "_law_links", "_law_rights", "_law_lefts", "_law_outs", "raised", "_law_node"]) (sc := defScope st_lwho) (by decide +kernel)) (fun _ _ _ _ _ => pg_name (i := 7) sc_lwho.nd rfl (Or.inl rfl)) (fun _ _ _ _ _ => pts_nil)
        (fun _ _ _ _ _ => pe_op op_sub (pv 7) pe_int))
      (pss_cons (ps_setLc (i := 5) (own := [("_law_node", 7)]) (g := gName 7) (tt := tYes) rfl sc_lwho.nd rfl rfl (sw_true rfl rfl rfl (by decide +kernel)) (pi_range1 (by rfl) T.n_range (pa_cons (pe_op op_add (pv 0) pe_int) pa_nil))
        (blkOk_by (N := ["_law_size_here", "_law_far", "_law_links", "_law_rights", "_law_lefts", "_law_outs", "raised", "_law_node"]) (sc := defScope st_lwho) (by decide +kernel)) (fun _ _ _ _ _ => pg_name (i := 7) sc_lwho.nd rfl (Or.inl rfl)) (fun _ _ _ _ _ => pts_nil)
        (fun _ _ _ _ _ => pe_bl))
      (pss_cons (ps_if (PW.pt (pw_or (pt_not (pt_val (pe_ca (ok_lsho T) hr T.g_lsho pass0 (pa_cons (pv 2) (pa_cons (pv 0) (pa_cons (pv 3) (pa_cons (pv 4) (pa_cons (pv 5) pa_nil)))))))) (pw_or1 (pt_not (pt_val (pe_ca (ok_lis T) h1 T.g_lis pass0 (pa_cons (ClX.pe_cval (pe_glob (v := .ref a.L) rfl T.g_L rfl)) (pa_cons pe_int pa_nil))))))))
        (pss_one (ps_ret pe_bl)) pss_nil)
      (pss_cons (ps_try_as (i := 6) (ts := tsLwho K a) (Wout := fun _ _ _ _ => False) (tb := fun W => tDrop (tMakeS a.L (spIni a.L a.BS) (WE W) (tCons (tVar 1) tNil)))
        rfl rfl sc_lwho.nd rfl rfl ⟨rfl, by decide, .inl T.g_BS⟩ takes0
        (fun W pn xe tk _ => pss_one (ps_expr (pe_maS T.mkL (ok_ini T) (hr.mono (by decide)) T.g_L (fun σ => passAt tk σ) (pa_cons (pv 1) pa_nil))))
        (fun x oe cls d pn hz hf => pss_cons (ps_if (PW.pt (pw_or (pt_val (pe_callB (call_isE hz hf) (by rfl) T.n_isinstance (by decide +kernel) (pa_cons (pv 6) (pa_cons (pe_glob (v := .ref a.LO) rfl T.g_LO rfl) pa_nil))))
            (pw_or1 (pt_not (pt_val (pe_callB (call_isE hz hf) (by rfl) T.n_isinstance (by decide +kernel) (pa_cons (pv 6) (pa_cons (pe_glob (v := .ref a.LI) rfl T.g_LI rfl) pa_nil)))))))) (pss_one (ps_ret pe_bl)) pss_nil)
          (pss_one (ps_ret (pe_and (pe_callB (call_isE hz hf) (by rfl) T.n_isinstance (by decide +kernel) (pa_cons (pv 6) (pa_cons (pe_bltn (v := .ty "ValueError") (by rfl) T.n_ValueError (by decide +kernel) rfl) pa_nil)))
            (pe_one (pe_callA FI (LL.RoomH.suite (L2H.roomH_of h1)) rfl T.g_lis kI bI (pa_cons (pe_xf T.f_BS T.no_BS_size hz hf (pv 6)) (pa_cons (pv 1) pa_nil)))))))))
      (pss_one (ps_ret pe_bl))))))), ?_⟩
    refine ⟨_, rfl, fun p dx0 np nd0 ne0 => rd_new hn np nd0 ne0 fun H1 a0 b0 c0 s1 na nb nc lk => ⟨rfl, ?_⟩⟩
    refine ⟨_, rfl, _, _, rfl, rfl, _, rfl, by omega, by omega, ?_⟩
    rw [show ((n : Int) + 1).toNat = n + 1 from by omega]
    intro pr hpr
    refine lc_pure (fun i => V.int (0 + (i : Int) + 1)) hpr (small1000 (by omega)) (fun i H' R _ _ q => ⟨rfl, _, rfl, _, _, rfl, rfl, q⟩) ?_
    rw [range_wr]
    refine ⟨_, rfl, _, _, rfl, rfl, _, rfl, by omega, by omega, ?_⟩
    rw [show ((n : Int) + 2).toNat = n + 2 from by omega]
    intro pl hpl
    refine lc_pure (fun i => V.int (0 + (i : Int) - 1)) hpl (small1000 (by omega)) (fun i H' R _ _ q => ⟨rfl, _, rfl, _, _, rfl, rfl, q⟩) ?_
    rw [range_wl]
    refine ⟨_, rfl, _, _, rfl, rfl, _, rfl, by omega, by omega, ?_⟩
    rw [show ((n : Int) + 2).toNat = n + 2 from by omega]
    intro pf hpf
    refine lc_pure (fun i => V.bl false) hpf (small1000 (by omega)) (fun i H' R _ _ q => ⟨rfl, q⟩) ?_
    rw [range_wf]
    obtain ⟨efl, hpf'⟩ := upd_none hpf
    obtain ⟨efr, hpf'⟩ := upd_none hpf'
    obtain ⟨elr, hpl'⟩ := upd_none hpl
    have s3 : Same H1 (upd (upd (upd H1 pr (.lst ((wr n).map V.int))) pl (.lst ((wl n).map V.int))) pf (.lst ((wf n).map V.bl))) := same_upd (same_upd (same_upd (Same.refl _) hpr) hpl) hpf
    have e1 : (upd (upd (upd H1 pr (.lst ((wr n).map V.int))) pl (.lst ((wl n).map V.int))) pf (.lst ((wf n).map V.bl))) pr = some (.lst ((wr n).map V.int)) := by rw [upd_ne (Ne.symm efr), upd_ne (Ne.symm elr), upd_same]
    have e2 : (upd (upd (upd H1 pr (.lst ((wr n).map V.int))) pl (.lst ((wl n).map V.int))) pf (.lst ((wf n).map V.bl))) pl = some (.lst ((wl n).map V.int)) := by rw [upd_ne (Ne.symm efl), upd_same]
    have e3 : (upd (upd (upd H1 pr (.lst ((wr n).map V.int))) pl (.lst ((wl n).map V.int))) pf (.lst ((wf n).map V.bl))) pf = some (.lst ((wf n).map V.bl)) := upd_same
    generalize upd (upd (upd H1 pr (.lst ((wr n).map V.int))) pl (.lst ((wl n).map V.int))) pf (.lst ((wf n).map V.bl)) = H3 at *
    refine ⟨_, rfl, _, rfl, _, rfl, _, rfl, _, rfl, p, a0, b0, c0, pr, pl, pf, n, wr n, wl n, wf n, rfl, lk.same s3, whole_wld hn, e1, e2, e3, fun H4 s4 => ⟨_, rfl, iteF ?_⟩⟩
    refine ⟨a.L, a.mc, _, _, rfl, T.crL, mo, 60, 60, rfl, _, rfl, ?_⟩
    rw [decide_eq_true rfl]
    refine iteF ?_
    have s04 : Same H H4 := (s1.trans s3).trans s4
    refine ⟨_, rfl, fun p2 dx2 np2 nd2 ne2 => rd_newX hfar np2 nd2 ne2 fun H5 d s5 hd => ?_⟩
    refine ⟨true, T.e_BS_BS, fun _ x nx => ?_, fun q => Bool.noConfusion q⟩
    refine rd_tsLwho T upd_same (k _ (fun q o e => ?_))
    have e' := s04 _ _ e
    rw [upd_ne (ne_of_none e' hd)]
    exact s5 _ _ e'
end
end LL
namespace LL
open PySem PySem.Spec PyProof.Rows L2 TL
section
variable {w : World} {K : PySem.W.Frag} {mg : Str → Option Value} {base : Heap} {a : Ad}
/-! ### equal exactly if the dumps are -/
theorem eqTo_ins {C : Addr} {H : Hp} {p pa pb pc q qa qb qc : Addr} {n m : Nat} {r l r' l' : List Int} {f g : List Bool} {c : Bool} (lk : LkAt C H p pa pb pc n r l f) (lq : LkAt C H q qa qb qc m r' l' g)
    (hc : c = decide (r ++ [(n : Int) + 2] = r' ++ [(m : Int) + 2] ∧ l = l' ∧ f = g)) : EqTo C H p (.ref q) c := ⟨pa, pb, pc, n, r, l, f, lk, .inl ⟨q, qa, qb, qc, m, r', l', g, rfl, lq, hc⟩⟩
theorem dec_eq {n : Nat} {r l r' l' : List Int} {f g : List Bool} : decide (r ++ [(n : Int) + 2] = r' ++ [(n : Int) + 2] ∧ l = l' ∧ f = g) = decide (r = r' ∧ l = l' ∧ f = g) := by
  refine decide_eq_decide.mpr ⟨fun h => ⟨List.append_cancel_right h.1, h.2⟩, fun h => ⟨by rw [h.1], h.2⟩⟩
theorem dmp_dec {n : Nat} {r l r' l' : List Int} {f g : List Bool} (W : Wld n r l f) (W' : Wld n r' l' g) : decide (V.str (dmp n r l f) = V.str (dmp n r' l' g)) = decide (r ++ [(n : Int) + 2] = r' ++ [(n : Int) + 2] ∧ l = l' ∧ f = g) := by
  rw [dec_eq]
  refine decide_eq_decide.mpr ⟨fun h => dmp_inj W W' (V.str.inj h), fun h => ?_⟩
  obtain ⟨rfl, rfl, rfl⟩ := h
  rfl
theorem dmp_dec' {n : Nat} {r l r' l' : List Int} {f g : List Bool} (W : Wld n r l f) (W' : Wld n r' l' g) : decide (V.str (dmp n r' l' g) = V.str (dmp n r l f)) = decide (r ++ [(n : Int) + 2] = r' ++ [(n : Int) + 2] ∧ l = l' ∧ f = g) := by
  rw [← dmp_dec W W']
  exact decide_eq_decide.mpr eq_comm
def spLeqr (C : Addr) : Sp := fun vs H Q _ => ∃ (p pa pb pc q pr pl pf q' pr' pl' pf' : Addr) (n : Nat) (r l r' l' : List Int) (f g : List Bool), vs = [.ref p, .int n, .ref q, .ref q'] ∧ LkAt C H p pa pb pc n r l f ∧ Wld n r l f ∧ Wld n r' l' g ∧
  WorldAt H q pr pl pf r l f ∧ WorldAt H q' pr' pl' pf' r' l' g ∧ ∀ H', Same H H' → Q (.bl true) H'
theorem WorldAt.same {H H' : Hp} {q pr pl pf : Addr} {r l : List Int} {f : List Bool} (A : WorldAt H q pr pl pf r l f) (s : Same H H') : WorldAt H' q pr pl pf r l f := ⟨s _ _ A.hq, s _ _ A.hr, s _ _ A.hl, s _ _ A.hf⟩
theorem sc_leqr : FnScope ["_law_links", "_law_size_here", "_law_world_here", "_law_near_here", "_law_text", "_law_bent", "_law_plain", "_law_other"] ["_law_links", "_law_size_here", "_law_world_here", "_law_near_here"] (defScope st_leqr) := ⟨rfl, rfl, rfl, by decide +kernel, rfl, by decide +kernel, by decide +kernel⟩
theorem ok_leqr (T : Txt K mg a) : Ok PW w K mg base CX0 6 a.leqr ["_law_links", "_law_size_here", "_law_world_here", "_law_near_here"] (spLeqr a.L) := by
  refine ok_of T.d_leqr fun fd F => F.ok sc_leqr (fun vs H Q E h => ?_) (fun cdv A outer s H vs Q E hr h => ?_)
  · obtain ⟨p, pa, pb, pc, q, pr, pl, pf, q', pr', pl', pf', n, r, l, r', l', f, g, rfl, _⟩ := h
    rfl
  · obtain ⟨p, pa, pb, pc, q, pr, pl, pf, q', pr', pl', pf', n, r, l, r', l', f, g, rfl, lk, W, W', A1, A2, k⟩ := h
    have hn := W.hn
    have h1 := hr.mono (show 1 ≤ 5 by decide)
    have h2 := hr.mono (show 2 ≤ 5 by decide)
    have h3 := hr.mono (show 3 ≤ 5 by decide)
    refine ⟨_, pss_cons (ps_set (i := 4) sc_leqr.nd rfl (.inl rfl) (pe_ca (ok_ldum T) h1 T.g_ldum pass0 (pa_cons (pv 1) (pa_cons (pe_ix ix_list (pv 2) pe_int (fun _ _ => rfl)) (pa_cons (pe_ix ix_list (pv 2) pe_int (fun _ _ => rfl)) (pa_cons (pe_ix ix_list (pv 2) pe_int (fun _ _ => rfl)) pa_nil))))))
      (pss_cons (ps_set (i := 5) sc_leqr.nd rfl (.inl rfl) (pe_ca (ok_ldum T) h1 T.g_ldum pass0 (pa_cons (pv 1) (pa_cons (pe_ix ix_list (pv 3) pe_int (fun _ _ => rfl)) (pa_cons (pe_ix ix_list (pv 3) pe_int (fun _ _ => rfl)) (pa_cons (pe_ix ix_list (pv 3) pe_int (fun _ _ => rfl)) pa_nil))))))
      (pss_cons (ps_set (i := 6) sc_leqr.nd rfl (.inl rfl) (pe_me0 (pe_ma T.mkL (ok_ini T) h3 T.g_L passL (pa_cons (pv 1) pa_nil)) T.clL T.m_dum (ok_dum T) h2 pass0))
      (pss_cons (ps_set (i := 7) sc_leqr.nd rfl (.inl rfl) (pe_sm (pe_glob (v := .ref a.L) rfl T.g_L rfl) T.crL T.m_rea (ok_rea T) hr pass0 (pa_cons (pv 5) pa_nil)))
      (pss_cons (ps_if (PW.pt (pw_or (pt_not (pt_val (pe_ca (ok_lequ T) h2 T.g_lequ pass0 (pa_cons (pv 0) (pa_cons (pe_sm (pe_glob (v := .ref a.L) rfl T.g_L rfl) T.crL T.m_rea (ok_rea T) hr pass0 (pa_cons (pv 4) pa_nil)) (pa_cons pe_bl pa_nil))))))
          (pw_or1 (pt_not (pt_val (pe_ca (ok_lequ T) h2 T.g_lequ pass0 (pa_cons (pv 0) (pa_cons (pe_ma T.mkL (ok_ini T) h3 T.g_L passL (pa_cons (pv 1) pa_nil)) (pa_cons (pe_cmpR op_eq (pv 6) (pv 4) (nomark _)) pa_nil))))))))) (pss_one (ps_ret pe_bl)) pss_nil)
      (pss_cons (ps_if (PW.pt (pw_or (pt_not (pt_val (pe_ca (ok_lequ T) h2 T.g_lequ pass0 (pa_cons (pv 0) (pa_cons (pv 7) (pa_cons (pe_cmpR op_eq (pv 5) (pv 4) (nomark _)) pa_nil))))))
          (pw_or1 (pt_not (pt_val (pe_ca (ok_lequ T) h2 T.g_lequ pass0 (pa_cons (pv 7) (pa_cons (pv 0) (pa_cons (pe_cmpR op_eq (pv 5) (pv 4) (nomark _)) pa_nil))))))))) (pss_one (ps_ret pe_bl)) pss_nil)
      (pss_cons (ps_if (pt_not (pt_val (pe_ca (ok_lequ T) h2 T.g_lequ pass0 (pa_cons (pv 0) (pa_cons (pe_ma T.mkL (ok_ini T) h3 T.g_L passL (pa_cons (pe_op op_mod (pe_callTy call_int1 (by rfl) T.n_int (by decide +kernel) (pa_cons (pe_op op_add (pv 1) pe_int) pa_nil)) pe_int) pa_nil)) (pa_cons pe_bl pa_nil)))))) (pss_one (ps_ret pe_bl)) pss_nil)
      (pss_one (ps_ret (pe_and (pe_ca (ok_lequ T) h2 T.g_lequ pass0 (pa_cons (pv 0) (pa_cons (pv 4) (pa_cons pe_bl pa_nil)))) (pe_one (pe_ca (ok_lequ T) h2 T.g_lequ pass0 (pa_cons (pv 0) (pa_cons (pv 1) (pa_cons pe_bl pa_nil)))))))))))))), ?_⟩
    refine ⟨_, rfl, _, rfl, q, _, _, _, rfl, rfl, .inl (.inl A1.hq), rfl, _, rfl, q, _, _, _, rfl, rfl, .inl (.inl A1.hq), rfl, _, rfl, q, _, _, _, rfl, rfl, .inl (.inl A1.hq), rfl, pr, pl, pf, n, r, l, f, rfl, W, A1.hr, A1.hl, A1.hf, fun H1 s1 => ?_⟩
    have A2 := A2.same s1
    refine ⟨_, rfl, _, rfl, q', _, _, _, rfl, rfl, .inl (.inl A2.hq), rfl, _, rfl, q', _, _, _, rfl, rfl, .inl (.inl A2.hq), rfl, _, rfl, q', _, _, _, rfl, rfl, .inl (.inl A2.hq), rfl, pr', pl', pf', n, r', l', g, rfl, W', A2.hr, A2.hl, A2.hf, fun H2 s2 => ?_⟩
    refine ⟨_, rfl, fun p3 dx3 np3 nd3 ne3 => rd_new hn np3 nd3 ne3 fun H3 a3 b3 c3 s3 na3 nb3 nc3 lk3 => ⟨rfl, ?_⟩⟩
    obtain ⟨dx, hp3⟩ := lk3.ob
    refine ⟨p3, dx, _, rfl, hp3, rfl, p3, a3, b3, c3, n, wr n, wl n, wf n, rfl, lk3, whole_wld hn, fun H4 s4 => ?_⟩
    refine ⟨rfl, _, rfl, n, r', l', g, rfl, W', fun H5 p5 a5 b5 c5 s5 np5 _ _ _ lk5 => ?_⟩
    have t5 : Same H H5 := (((s1.trans s2).trans s3).trans s4).trans s5
    -- == of what is read from the dump
    refine ⟨_, rfl, rfl, _, rfl, n, r, l, f, rfl, W, fun H6 p6 a6 b6 c6 s6 np6 _ _ _ lk6 => ?_⟩
    have t6 := t5.trans s6
    refine ⟨p, .ref p6, true, rfl, eqTo_ins (lk.same t6) lk6 (by rw [dec_eq]; simp), _, rfl, iteF ?_⟩
    refine ⟨_, rfl, _, rfl, fun p7 dx7 np7 nd7 ne7 => rd_new hn np7 nd7 ne7 fun H7 a7 b7 c7 s7 na7 nb7 nc7 lk7 => ⟨rfl, ?_⟩⟩
    have t7 := t6.trans s7
    refine ⟨_, rfl, _, rfl, rfl, p, .ref p7, _, rfl, eqTo_ins (lk.same t7) lk7 (dmp_dec' W (whole_wld hn)), _, rfl, iteF ?_⟩
    have lo := (lk5.same s6).same s7
    refine ⟨_, rfl, _, rfl, _, rfl, _, rfl, rfl, p, .ref p5, _, rfl, eqTo_ins (lk.same t7) lo (dmp_dec' W W'), _, rfl, iteF ?_⟩
    refine ⟨_, rfl, _, rfl, _, rfl, _, rfl, rfl, p5, .ref p, _, rfl, eqTo_ins lo (lk.same t7) (dmp_dec W' W), _, rfl, iteF ?_⟩
    obtain ⟨m, hm⟩ : ∃ m : Nat, ((n : Int) + 1) % 61 = m := ⟨(((n : Int) + 1) % 61).toNat, by omega⟩
    refine ⟨_, rfl, _, rfl, _, _, rfl, rfl, .inl ⟨_, rfl, _, _, rfl, rfl, (by show (0 : Int) < 61; decide), ?_⟩⟩
    dsimp only
    rw [hm]
    refine fun p8 dx8 np8 nd8 ne8 => rd_new (by omega) np8 nd8 ne8 fun H8 a8 b8 c8 s8 na8 nb8 nc8 lk8 => ⟨rfl, ?_⟩
    have t8 := t7.trans s8
    have hd : false = decide (r ++ [(n : Int) + 2] = wr m ++ [(m : Int) + 2] ∧ l = wl m ∧ f = wf m) := by
      refine (decide_eq_false fun z => ?_).symm
      have e1 := congrArg List.length z.1
      have e2 := W.lr
      have e3 := (whole_wld (n := m) (by omega)).lr
      rw [List.length_append, List.length_append, e2, e3] at e1
      simp only [List.length_cons, List.length_nil] at e1
      omega
    refine ⟨p, .ref p8, false, rfl, eqTo_ins (lk.same t8) lk8 hd, _, rfl, iteF ?_⟩
    refine ⟨_, rfl, _, rfl, p, _, false, rfl, ⟨pa, pb, pc, n, r, l, f, lk.same t8, .inr (.inr ⟨_, rfl, rfl⟩)⟩, _, rfl, iteT ?_⟩
    exact ⟨_, rfl, _, rfl, p, _, false, rfl, ⟨pa, pb, pc, n, r, l, f, lk.same t8, .inr (.inl ⟨_, rfl, rfl⟩)⟩, k _ t8⟩
/-! ### refused -/
def tsLref (K : PySem.W.Frag) (a : Ad) (C O : Addr) (t0 : TT) (x : Addr) (cls : Value) (d : Option Addr) : TS :=
  tSeq (tIfS (tOr t0 (tOr (tB (isE K cls d x 3 (.ref O))) (tB (isE K cls d x 3 (.ref a.RE))))) (tRet (tC (.bl false))) tNext)
  (tSeq (tIfS (tOr (tNot (tB (isE K cls d x 3 (.ref a.LO)))) (tNot (tB (isE K cls d x 3 (.ref a.LI))))) (tRet (tC (.bl false))) tNext)
  (tSeq (tIfS (tNot (tB (isE K cls d x 3 (.ty "ValueError")))) (tRet (tC (.bl false))) tNext)
  (tRet (tAndV (tCall spLis [] E0 (tCons (tXf x cls d C "operation" (tVar 3)) (tCons (tVar 1) tNil))) (tCall spLis [] E0 (tCons (tXf x cls d C "index" (tVar 3)) (tCons (tC (.int 0)) tNil)))))))
theorem rd_tsBO (T : Txt K mg a) {x d : Addr} {H : Hp} {D : Ends} {op : Int} {v0 : Option V} (hd : H d = some (xdO op 0)) (k : D.rt (.bl true) H) :
    tsLref K a a.BO a.IL (tNot (tB (tVar 2))) x (.ref a.BO) (some d) D [v0, some (.int op), some (.bl true), some (.ref x)] H := by
  refine ⟨_, rfl, true, rfl, iteF ?_⟩
  refine ⟨_, rfl, a.BO, d, rfl, rfl, T.c_BO, _, _, _, _, rfl, (fun u h => h), hd, T.k_BO_IL, _, rfl, iteF ?_⟩
  refine ⟨_, rfl, a.BO, d, rfl, rfl, T.c_BO, _, _, _, _, rfl, (fun u h => h), hd, T.k_BO_RE, _, rfl, iteF ?_⟩
  refine ⟨_, rfl, a.BO, d, rfl, rfl, T.c_BO, _, _, _, _, rfl, (fun u h => h), hd, T.k_BO_LO, _, rfl, iteF ?_⟩
  refine ⟨_, rfl, a.BO, d, rfl, rfl, T.c_BO, _, _, _, _, rfl, (fun u h => h), hd, T.k_BO_LI, _, rfl, iteF ?_⟩
  refine ⟨_, rfl, a.BO, d, rfl, rfl, T.c_BO, _, _, _, _, rfl, (fun u h => h), hd, T.k_BO_VE, _, rfl, iteF ?_⟩
  refine ⟨_, rfl, rfl, rfl, d, _, _, rfl, hd, rfl, _, rfl, op, op, rfl, _, rfl, ?_⟩
  rw [decide_eq_true rfl]
  exact iteT ⟨_, rfl, rfl, rfl, d, _, _, rfl, hd, rfl, 0, 0, rfl, q_true rfl k⟩
theorem rd_tsIL (T : Txt K mg a) {x d : Addr} {H : Hp} {D : Ends} {op : Int} {v0 : Option V} (hd : H d = some (xdO op 0)) (k : D.rt (.bl true) H) :
    tsLref K a a.IL a.BO (tB (tVar 2)) x (.ref a.IL) (some d) D [v0, some (.int op), some (.bl false), some (.ref x)] H := by
  refine ⟨_, rfl, false, rfl, iteF ?_⟩
  refine ⟨_, rfl, a.IL, d, rfl, rfl, T.c_IL, _, _, _, _, rfl, (fun u h => h), hd, T.k_IL_BO, _, rfl, iteF ?_⟩
  refine ⟨_, rfl, a.IL, d, rfl, rfl, T.c_IL, _, _, _, _, rfl, (fun u h => h), hd, T.k_IL_RE, _, rfl, iteF ?_⟩
  refine ⟨_, rfl, a.IL, d, rfl, rfl, T.c_IL, _, _, _, _, rfl, (fun u h => h), hd, T.k_IL_LO, _, rfl, iteF ?_⟩
  refine ⟨_, rfl, a.IL, d, rfl, rfl, T.c_IL, _, _, _, _, rfl, (fun u h => h), hd, T.k_IL_LI, _, rfl, iteF ?_⟩
  refine ⟨_, rfl, a.IL, d, rfl, rfl, T.c_IL, _, _, _, _, rfl, (fun u h => h), hd, T.k_IL_VE, _, rfl, iteF ?_⟩
  refine ⟨_, rfl, rfl, rfl, d, _, _, rfl, hd, rfl, _, rfl, op, op, rfl, _, rfl, ?_⟩
  rw [decide_eq_true rfl]
  exact iteT ⟨_, rfl, rfl, rfl, d, _, _, rfl, hd, rfl, 0, 0, rfl, q_true rfl k⟩
def spLref (C : Addr) : Sp := fun vs H Q _ => ∃ (p pa pb pc : Addr) (n : Nat) (r l : List Int) (f : List Bool) (op : Int) (bad : Bool), vs = [.ref p, .int op, .bl bad] ∧ LkAt C H p pa pb pc n r l f ∧ Wld n r l f ∧
  ((bad = true ∧ BadOp n op) ∨ (bad = false ∧ ¬ BadOp n op ∧ ∃ k : Nat, ab op = k ∧ f[k]? = some (decide (op < 0)))) ∧ ∀ H', Same H H' → Q (.bl true) H'
theorem sc_lref : FnScope ["_law_links", "_law_operation_here", "_law_bad", "raised"] ["_law_links", "_law_operation_here", "_law_bad"] (defScope st_lref) := ⟨rfl, rfl, rfl, by decide +kernel, rfl, by decide +kernel, by decide +kernel⟩
theorem ok_lref (T : Txt K mg a) : Ok PW w K mg base CX0 4 a.lref ["_law_links", "_law_operation_here", "_law_bad"] (spLref a.L) := by
  refine ok_of T.d_lref fun fd F => F.ok sc_lref (fun vs H Q E h => ?_) (fun cdv A outer s H vs Q E hr h => ?_)
  · obtain ⟨p, pa, pb, pc, n, r, l, f, op, bad, rfl, _⟩ := h
    rfl
  · obtain ⟨p, pa, pb, pc, n, r, l, f, op, bad, rfl, lk, W, cs, k⟩ := h
    obtain ⟨dx, hp⟩ := lk.ob
    obtain ⟨fi, FI, bI, kI⟩ := ok_lisA (w := w) (base := base) T
    have h1 := hr.mono (show 1 ≤ 3 by decide)
    refine ⟨_, pss_cons (ps_try_some (i := 3) (l := [(.ref a.BO, tsLref K a a.BO a.IL (tNot (tB (tVar 2)))), (.ref a.IL, tsLref K a a.IL a.BO (tB (tVar 2)))]) (Wout := fun _ _ _ _ => False) (tb := fun W => tDrop (tMethS a.L "apply" (spApp a.L a.BO a.IL) (WE W) (tVar 0) (tCons (tVar 1) tNil)))
        rfl rfl sc_lref.nd rfl rfl takes0
        (fun W pn xe tk _ => pss_one (ps_expr (pe_meS (pv 0) T.clL T.m_app (ok_app T) hr (fun σ => passAt tk σ) (pa_cons (pv 1) pa_nil))))
        (HdsN.cons ⟨rfl, by decide, .inl T.g_BO⟩
          (fun x oe cls d pn hz hf => pss_cons (ps_if (PW.pt (pw_or (pt_not (pt_val (pv 2))) (pw_or (pt_val (pe_callB (call_isE hz hf) (by rfl) T.n_isinstance (by decide +kernel) (pa_cons (pv 3) (pa_cons (pe_glob (v := .ref a.IL) rfl T.g_IL rfl) pa_nil))))
              (pw_or1 (pt_val (pe_callB (call_isE hz hf) (by rfl) T.n_isinstance (by decide +kernel) (pa_cons (pv 3) (pa_cons (pe_glob (v := .ref a.RE) rfl T.g_RE rfl) pa_nil)))))))) (pss_one (ps_ret pe_bl)) pss_nil)
            (pss_cons (ps_if (PW.pt (pw_or (pt_not (pt_val (pe_callB (call_isE hz hf) (by rfl) T.n_isinstance (by decide +kernel) (pa_cons (pv 3) (pa_cons (pe_glob (v := .ref a.LO) rfl T.g_LO rfl) pa_nil)))))
              (pw_or1 (pt_not (pt_val (pe_callB (call_isE hz hf) (by rfl) T.n_isinstance (by decide +kernel) (pa_cons (pv 3) (pa_cons (pe_glob (v := .ref a.LI) rfl T.g_LI rfl) pa_nil)))))))) (pss_one (ps_ret pe_bl)) pss_nil)
            (pss_cons (ps_if (pt_not (pt_val (pe_callB (call_isE hz hf) (by rfl) T.n_isinstance (by decide +kernel) (pa_cons (pv 3) (pa_cons (pe_bltn (v := .ty "ValueError") (by rfl) T.n_ValueError (by decide +kernel) rfl) pa_nil))))) (pss_one (ps_ret pe_bl)) pss_nil)
            (pss_one (ps_ret (pe_and (pe_callA FI (LL.RoomH.suite (L2H.roomH_of h1)) rfl T.g_lis kI bI (pa_cons (pe_xf T.f_BO T.no_BO_operation hz hf (pv 3)) (pa_cons (pv 1) pa_nil)))
              (pe_one (pe_callA FI (LL.RoomH.suite (L2H.roomH_of h1)) rfl T.g_lis kI bI (pa_cons (pe_xf T.f_BO T.no_BO_index hz hf (pv 3)) (pa_cons pe_int pa_nil))))))))))
        (HdsN.cons ⟨rfl, by decide, .inl T.g_IL⟩
          (fun x oe cls d pn hz hf => pss_cons (ps_if (PW.pt (pw_or (pt_val (pv 2)) (pw_or (pt_val (pe_callB (call_isE hz hf) (by rfl) T.n_isinstance (by decide +kernel) (pa_cons (pv 3) (pa_cons (pe_glob (v := .ref a.BO) rfl T.g_BO rfl) pa_nil))))
              (pw_or1 (pt_val (pe_callB (call_isE hz hf) (by rfl) T.n_isinstance (by decide +kernel) (pa_cons (pv 3) (pa_cons (pe_glob (v := .ref a.RE) rfl T.g_RE rfl) pa_nil)))))))) (pss_one (ps_ret pe_bl)) pss_nil)
            (pss_cons (ps_if (PW.pt (pw_or (pt_not (pt_val (pe_callB (call_isE hz hf) (by rfl) T.n_isinstance (by decide +kernel) (pa_cons (pv 3) (pa_cons (pe_glob (v := .ref a.LO) rfl T.g_LO rfl) pa_nil)))))
              (pw_or1 (pt_not (pt_val (pe_callB (call_isE hz hf) (by rfl) T.n_isinstance (by decide +kernel) (pa_cons (pv 3) (pa_cons (pe_glob (v := .ref a.LI) rfl T.g_LI rfl) pa_nil)))))))) (pss_one (ps_ret pe_bl)) pss_nil)
            (pss_cons (ps_if (pt_not (pt_val (pe_callB (call_isE hz hf) (by rfl) T.n_isinstance (by decide +kernel) (pa_cons (pv 3) (pa_cons (pe_bltn (v := .ty "ValueError") (by rfl) T.n_ValueError (by decide +kernel) rfl) pa_nil))))) (pss_one (ps_ret pe_bl)) pss_nil)
            (pss_one (ps_ret (pe_and (pe_callA FI (LL.RoomH.suite (L2H.roomH_of h1)) rfl T.g_lis kI bI (pa_cons (pe_xf T.f_IL T.no_IL_operation hz hf (pv 3)) (pa_cons (pv 1) pa_nil)))
              (pe_one (pe_callA FI (LL.RoomH.suite (L2H.roomH_of h1)) rfl T.g_lis kI bI (pa_cons (pe_xf T.f_IL T.no_IL_index hz hf (pv 3)) (pa_cons pe_int pa_nil))))))))))
        HdsN.nil)))
      (pss_one (ps_ret pe_bl)), ?_⟩
    refine ⟨_, rfl, p, dx, _, rfl, hp, rfl, _, rfl, p, op, rfl, p, pa, pb, pc, n, r, l, f, op, 0, rfl, lk, W, ?_, ?_, ?_⟩
    · intro hb d hd
      rcases cs with ⟨rfl, _⟩ | ⟨_, nb, _⟩
      · exact ⟨true, T.e_BO_BO, fun _ x nx => rd_tsBO T upd_same (k _ (same_upd (Same.refl _) hd)), fun q => Bool.noConfusion q⟩
      · exact absurd hb nb
    · intro j nb hj hf d hd
      rcases cs with ⟨_, hb⟩ | ⟨rfl, _, _⟩
      · exact absurd hb nb
      · exact ⟨false, T.e_IL_BO, fun q => Bool.noConfusion q, fun _ => ⟨true, T.e_IL_IL, fun _ x nx => rd_tsIL T upd_same (k _ (same_upd (Same.refl _) hd)), fun q => Bool.noConfusion q⟩⟩
    · intro j lo hi nb hj hf
      rcases cs with ⟨_, hb⟩ | ⟨_, _, j', hj', hf'⟩
      · exact absurd hb nb
      · exfalso
        have e : j = j' := by omega
        rw [← e, hf] at hf'
        cases z : decide (op < 0) <;> rw [z] at hf' <;> simp at hf'
end
end LL
namespace LL
open PySem PySem.Spec PyProof.Rows L2 TL
section
variable {w : World} {K : PySem.W.Frag} {mg : Str → Option Value} {base : Heap} {a : Ad}
/-! ### apart -/
def Dj (S S' : List Addr) : Prop := ∀ u ∈ S, ∀ v ∈ S', u ≠ v
theorem Dj.symm {S S' : List Addr} (h : Dj S S') : Dj S' S := fun u hu v hv => Ne.symm (h v hv u hu)
def Keep (S : List Addr) (H H' : Hp) : Prop := ∀ q o, (∀ u ∈ S, q ≠ u) → H q = some o → H' q = some o
def LsT (H : Hp) (S : List Addr) : Prop := ∀ u ∈ S, ∃ xs, H u = some (.lst xs)
def Fre (H : Hp) (S : List Addr) : Prop := ∀ u ∈ S, H u = none
theorem LsT.same {H H' : Hp} {S : List Addr} (h : LsT H S) (s : Same H H') : LsT H' S := fun u hu => let ⟨xs, e⟩ := h u hu; ⟨xs, s _ _ e⟩
theorem dj_of {H : Hp} {S S' : List Addr} (h : LsT H S) (h' : Fre H S') : Dj S S' := fun u hu v hv => let ⟨_, e⟩ := h u hu; ne_of_none e (h' v hv)
theorem all3 {P : Addr → Prop} {x y z : Addr} (h1 : P x) (h2 : P y) (h3 : P z) : ∀ u ∈ [x, y, z], P u := by
  intro u hu
  simp only [List.mem_cons, List.mem_nil_iff, or_false] at hu
  rcases hu with rfl | rfl | rfl
  · exact h1
  · exact h2
  · exact h3
theorem LkAt.ls {C : Addr} {H : Hp} {p a b c : Addr} {n : Nat} {r l : List Int} {f : List Bool} (k : LkAt C H p a b c n r l f) : LsT H [a, b, c] := all3 ⟨_, k.la⟩ ⟨_, k.rb⟩ ⟨_, k.fc⟩
theorem LkAt.keep {C : Addr} {H H' : Hp} {S : List Addr} {p a b c : Addr} {n : Nat} {r l : List Int} {f : List Bool} (k : LkAt C H p a b c n r l f) (kp : Keep S H H') (ls : LsT H S) (dj : Dj [a, b, c] S) : LkAt C H' p a b c n r l f := by
  obtain ⟨dx, hp⟩ := k.ob
  refine ⟨⟨dx, kp _ _ (fun u hu => ?_) hp⟩, kp _ _ (dj a (by simp)) k.la, kp _ _ (dj b (by simp)) k.rb, kp _ _ (dj c (by simp)) k.fc, k.ab, k.ac, k.bc⟩
  obtain ⟨xs, e⟩ := ls u hu
  exact ne_of hp e (by intro z; cases z)
structure RAt (H : Hp) (pr pl pf : Addr) (r l : List Int) (f : List Bool) : Prop where
  hr : H pr = some (.lst (r.map V.int))
  hl : H pl = some (.lst (l.map V.int))
  hf : H pf = some (.lst (f.map V.bl))
theorem RAt.ls {H : Hp} {pr pl pf : Addr} {r l : List Int} {f : List Bool} (k : RAt H pr pl pf r l f) : LsT H [pr, pl, pf] := all3 ⟨_, k.hr⟩ ⟨_, k.hl⟩ ⟨_, k.hf⟩
theorem RAt.same {H H' : Hp} {pr pl pf : Addr} {r l : List Int} {f : List Bool} (k : RAt H pr pl pf r l f) (s : Same H H') : RAt H' pr pl pf r l f := ⟨s _ _ k.hr, s _ _ k.hl, s _ _ k.hf⟩
theorem RAt.keep {H H' : Hp} {S : List Addr} {pr pl pf : Addr} {r l : List Int} {f : List Bool} (k : RAt H pr pl pf r l f) (kp : Keep S H H') (dj : Dj [pr, pl, pf] S) : RAt H' pr pl pf r l f :=
  ⟨kp _ _ (dj pr (by simp)) k.hr, kp _ _ (dj pl (by simp)) k.hl, kp _ _ (dj pf (by simp)) k.hf⟩
theorem hst_keep {H : Hp} {pa pb pc : Addr} {n : Nat} {r l : List Int} {f : List Bool} {k lo hi : Nat} {o : Bool} : Keep [pa, pb, pc] H (Hst H pa pb pc n r l f k lo hi o) := fun q u h e => by
  unfold Hst
  rw [upd_ne (h pc (by simp)), upd_ne (h pa (by simp)), upd_ne (h pb (by simp))]
  exact e
theorem hwr_keep {H : Hp} {pr pl pf : Addr} {r l : List Int} {f : List Bool} {k lo hi : Nat} {o : Bool} : Keep [pr, pl, pf] H (Hwr H pr pl pf r l f k lo hi o) := fun q u h e => by
  unfold Hwr
  rw [upd_ne (h pl (by simp)), upd_ne (h pr (by simp)), upd_ne (h pf (by simp))]
  exact e
/-- the step on the object -/
theorem LkAt.step {C : Addr} {H : Hp} {p a b c : Addr} {n : Nat} {r l : List Int} {f : List Bool} {k lo hi : Nat} {o : Bool} (K : LkAt C H p a b c n r l f) : LkAt C (Hst H a b c n r l f k lo hi o) p a b c n (nr r k lo hi o) (nl l k lo hi o) (f.set k o) := by
  obtain ⟨dx, hp⟩ := K.ob
  refine ⟨⟨dx, hst_keep _ _ (fun u hu => ?_) hp⟩, ?_, ?_, ?_, K.ab, K.ac, K.bc⟩
  · obtain ⟨xs, e⟩ := K.ls u hu
    exact ne_of hp e (by intro z; cases z)
  · unfold Hst
    rw [upd_ne K.ac, upd_same]
  · unfold Hst
    rw [upd_ne K.bc, upd_ne (Ne.symm K.ab), upd_same]
  · unfold Hst
    rw [upd_same]
theorem RAt.step {H : Hp} {pr pl pf : Addr} {r l : List Int} {f : List Bool} {k lo hi : Nat} {o : Bool} (h1 : pr ≠ pl) (h2 : pr ≠ pf) (h3 : pl ≠ pf) : RAt (Hwr H pr pl pf r l f k lo hi o) pr pl pf (nr r k lo hi o) (nl l k lo hi o) (f.set k o) := by
  refine ⟨?_, ?_, ?_⟩
  · unfold Hwr
    rw [upd_ne h1, upd_same]
  · unfold Hwr
    rw [upd_same]
  · unfold Hwr
    rw [upd_ne (Ne.symm h3), upd_ne (Ne.symm h2), upd_same]
/-- .. keeps the standing -/
theorem Wld.step {n : Nat} {r l : List Int} {f : List Bool} {k lo hi : Nat} {o : Bool} (W : Wld n r l f) (h1 : 1 ≤ k) (h2 : k ≤ n) (b1 : lo < k) (b2 : k < hi) (b3 : hi ≤ n + 1) : Wld n (nr r k lo hi o) (nl l k lo hi o) (f.set k o) := by
  unfold nr nl
  obtain ⟨j, rfl⟩ : ∃ j, hi = j + 1 := ⟨hi - 1, by omega⟩
  have W1 : Wld n (r.set lo (if o = true then ((j + 1 : Nat) : Int) else (k : Int))) l f := W.setR (by cases o <;> simp <;> omega) (by cases o <;> simp <;> omega)
  have W2 := W1.setL (v := j) (x := if o = true then (lo : Int) else (k : Int)) (by cases o <;> simp) (by cases o <;> simp <;> omega)
  exact W2.setF h1 h2
theorem ill {f : List Bool} {op : Int} {k k' : Nat} {o : Bool} (hk : ab op = k) (hf : f[k]? = some (!o)) (e : ab op = k') (hf' : f[k']? = some o) : False := by
  obtain rfl : k = k' := by omega
  rw [hf] at hf'
  cases o <;> simp at hf'
theorem st_same {r l : List Int} {op : Int} {k k' lo lo' hi hi' : Nat} (hk : ab op = k) (hl : l[k]? = some (lo : Int)) (hh : r[k]? = some (hi : Int)) (e : ab op = k') (hl' : l[k']? = some (lo' : Int)) (hh' : r[k']? = some (hi' : Int)) : k = k' ∧ lo = lo' ∧ hi = hi' := by
  obtain rfl : k = k' := by omega
  rw [hl] at hl'
  rw [hh] at hh'
  have e1 : (lo : Int) = lo' := Option.some.inj hl'
  have e2 : (hi : Int) = hi' := Option.some.inj hh'
  exact ⟨rfl, by omega, by omega⟩
theorem set_ne {f : List Bool} {k : Nat} {o : Bool} (h : f[k]? = some (!o)) : f ≠ f.set k o := by
  intro e
  have h2 : (f.set k o)[k]? = some o := by
    rw [List.getElem?_set_self (List.getElem?_eq_some_iff.mp h).1]
  rw [← e, h] at h2
  cases o <;> simp at h2
/-! ### turn_right -/
def spLtur (C : Addr) : Sp := fun vs H Q _ => ∃ (p pa pb pc pr pl pf : Addr) (n : Nat) (r l : List Int) (f : List Bool) (op : Int), vs = [.ref p, .int n, .ref pr, .ref pl, .ref pf, .int op] ∧ LkAt C H p pa pb pc n r l f ∧ Wld n r l f ∧ RAt H pr pl pf r l f ∧
  pr ≠ pl ∧ pr ≠ pf ∧ pl ≠ pf ∧ Dj [pa, pb, pc] [pr, pl, pf] ∧ ∀ H' r' l' f', Wld n r' l' f' → LkAt C H' p pa pb pc n r' l' f' → RAt H' pr pl pf r' l' f' → (∀ q o, (∀ u ∈ [pa, pb, pc], q ≠ u) → (∀ u ∈ [pr, pl, pf], q ≠ u) → H q = some o → H' q = some o) → Q (.bl true) H'
theorem sc_ltur : FnScope ["_law_links", "_law_size_here", "_law_rights", "_law_lefts", "_law_outs", "_law_operation_here", "_law_before", "_law_twin", "_law_held", "_law_again", "_law_bad", "_law_after"] ["_law_links", "_law_size_here", "_law_rights", "_law_lefts", "_law_outs", "_law_operation_here"] (defScope st_ltur) :=
  ⟨rfl, rfl, rfl, by decide +kernel, rfl, by decide +kernel, by decide +kernel⟩
theorem ok_ltur (T : Txt K mg a) : Ok PW w K mg base CX0 6 a.ltur ["_law_links", "_law_size_here", "_law_rights", "_law_lefts", "_law_outs", "_law_operation_here"] (spLtur a.L) := by
  refine ok_of T.d_ltur fun fd F => F.ok sc_ltur (fun vs H Q E h => ?_) (fun cdv A outer s H vs Q E hr h => ?_)
  · obtain ⟨p, pa, pb, pc, pr, pl, pf, n, r, l, f, op, rfl, _⟩ := h
    rfl
  · obtain ⟨p, pa, pb, pc, pr, pl, pf, n, r, l, f, op, rfl, lk, W, R, erl, erf, elf, djR, k⟩ := h
    have hn := W.hn
    have h1 := hr.mono (show 1 ≤ 5 by decide)
    have h2 := hr.mono (show 2 ≤ 5 by decide)
    have h3 := hr.mono (show 3 ≤ 5 by decide)
    have h4 := hr.mono (show 4 ≤ 5 by decide)
    refine ⟨_, pss_cons (ps_set (i := 6) sc_ltur.nd rfl (.inl rfl) (pe_ca (ok_ldum T) h1 T.g_ldum pass0 (pa_cons (pv 1) (pa_cons (pv 2) (pa_cons (pv 3) (pa_cons (pv 4) pa_nil))))))
      (pss_cons (ps_set (i := 7) sc_ltur.nd rfl (.inl rfl) (pe_me0 (pv 0) T.clL T.m_cop (ok_cop T) hr pass0))
      (pss_cons (ps_set (i := 8) sc_ltur.nd rfl (.inl rfl) (pe_me0 (pv 0) T.clL T.m_cop (ok_cop T) hr pass0))
      (pss_cons (ps_set (i := 9) sc_ltur.nd rfl (.inl rfl) (pe_sm (pe_glob (v := .ref a.L) rfl T.g_L rfl) T.crL T.m_rea (ok_rea T) hr pass0 (pa_cons (pv 6) pa_nil)))
      (pss_cons (ps_set (i := 10) sc_ltur.nd rfl (.inl rfl) (pe_or (pe_cmpR op_eq (pv 5) pe_int (nomark _)) (pe_one (pe_cmpR op_gt (pe_callB call_abs (by rfl) T.n_abs (by decide +kernel) (pa_cons (pv 5) pa_nil)) (pv 1) (nomark _)))))
      (pss_cons (ps_if (PW.pt (pw_or (pt_val (pv 10)) (pw_or1 (pt_cmpR op_eq (pe_ix ix_list (pv 4) (pe_callB call_abs (by rfl) T.n_abs (by decide +kernel) (pa_cons (pv 5) pa_nil)) (fun _ _ => rfl)) (pe_cmpR op_lt (pv 5) pe_int (nomark _)) (nomark _)))))
        (pss_cons (ps_if (PW.pt (pw_or (pt_not (pt_val (pe_ca (ok_lref T) h4 T.g_lref pass0 (pa_cons (pv 0) (pa_cons (pv 5) (pa_cons (pv 10) pa_nil)))))) (pw_or1 (pt_not (pt_val (pe_ca (ok_lref T) h4 T.g_lref pass0 (pa_cons (pv 7) (pa_cons (pv 5) (pa_cons (pv 10) pa_nil))))))))) (pss_one (ps_ret pe_bl)) pss_nil)
        (pss_one (ps_ret (pe_and (pe_ca (ok_lsho T) hr T.g_lsho pass0 (pa_cons (pv 0) (pa_cons (pv 1) (pa_cons (pv 2) (pa_cons (pv 3) (pa_cons (pv 4) pa_nil)))))) (pe_one (pe_cmpR op_eq (pe_me0 (pv 7) T.clL T.m_dum (ok_dum T) h2 pass0) (pv 6) (nomark _))))))) pss_nil)
      (pss_cons (ps_if (PW.pt (pw_or (pt_cmpR op_notN (pe_me (pv 7) T.clL T.m_app (ok_app T) h3 passL (pa_cons (pv 5) pa_nil)) pe_non (nomark _)) (pw_or1 (pt_not (pt_val (pe_ca (ok_lsho T) hr T.g_lsho pass0 (pa_cons (pv 0) (pa_cons (pv 1) (pa_cons (pv 2) (pa_cons (pv 3) (pa_cons (pv 4) pa_nil))))))))))) (pss_one (ps_ret pe_bl)) pss_nil)
      (pss_cons (ps_if (PW.pt (pw_or (pt_not (pt_val (pe_ca (ok_lequ T) h2 T.g_lequ pass0 (pa_cons (pv 0) (pa_cons (pv 7) (pa_cons pe_bl pa_nil)))))) (pw_or1 (pt_not (pt_val (pe_ca (ok_lequ T) h2 T.g_lequ pass0 (pa_cons (pv 0) (pa_cons (pv 8) (pa_cons pe_bl pa_nil))))))))) (pss_one (ps_ret pe_bl)) pss_nil)
      (pss_cons (ps_if (pt_cmpR op_notN (pe_me (pv 0) T.clL T.m_app (ok_app T) h3 passL (pa_cons (pv 5) pa_nil)) pe_non (nomark _)) (pss_one (ps_ret pe_bl)) pss_nil)
      (pss_cons (ps_expr (pe_ca (ok_lwri T) h1 T.g_lwri pass0 (pa_cons (pv 2) (pa_cons (pv 3) (pa_cons (pv 4) (pa_cons (pv 5) pa_nil))))))
      (pss_cons (ps_set (i := 11) sc_ltur.nd rfl (.inl rfl) (pe_ca (ok_ldum T) h1 T.g_ldum pass0 (pa_cons (pv 1) (pa_cons (pv 2) (pa_cons (pv 3) (pa_cons (pv 4) pa_nil))))))
      (pss_cons (ps_if (PW.pt (pw_or (pt_not (pt_val (pe_ca (ok_lsho T) hr T.g_lsho pass0 (pa_cons (pv 0) (pa_cons (pv 1) (pa_cons (pv 2) (pa_cons (pv 3) (pa_cons (pv 4) pa_nil)))))))) (pw_or1 (pt_not (pt_val (pe_ca (ok_lequ T) h2 T.g_lequ pass0 (pa_cons (pv 0) (pa_cons (pv 7) (pa_cons pe_bl pa_nil))))))))) (pss_one (ps_ret pe_bl)) pss_nil)
      (pss_cons (ps_if (PW.pt (pw_or (pt_cmpR op_ne (pe_me0 (pv 8) T.clL T.m_dum (ok_dum T) h2 pass0) (pv 6) (nomark _)) (pw_or (pt_cmpR op_ne (pe_me0 (pv 9) T.clL T.m_dum (ok_dum T) h2 pass0) (pv 6) (nomark _))
          (pw_or1 (pt_cmpR op_ne (pe_me0 (pv 7) T.clL T.m_dum (ok_dum T) h2 pass0) (pv 11) (nomark _)))))) (pss_one (ps_ret pe_bl)) pss_nil)
      (pss_cons (ps_if (PW.pt (pw_or (pt_not (pt_val (pe_ca (ok_lref T) h4 T.g_lref pass0 (pa_cons (pv 7) (pa_cons (pv 5) (pa_cons pe_bl pa_nil)))))) (pw_or1 (pt_cmpR op_notN (pe_me (pv 9) T.clL T.m_app (ok_app T) h3 passL (pa_cons (pv 5) pa_nil)) pe_non (nomark _))))) (pss_one (ps_ret pe_bl)) pss_nil)
      (pss_cons (ps_if (PW.pt (pw_or (pt_cmpR op_notN (pe_me (pv 7) T.clL T.m_app (ok_app T) h3 passL (pa_cons (pe_un un_neg (pv 5)) pa_nil)) pe_non (nomark _)) (pw_or (pt_not (pt_val (pe_ca (ok_lequ T) h2 T.g_lequ pass0 (pa_cons (pv 0) (pa_cons (pv 9) (pa_cons pe_bl pa_nil))))))
          (pw_or1 (pt_cmpR op_ne (pe_me0 (pv 8) T.clL T.m_dum (ok_dum T) h2 pass0) (pv 6) (nomark _)))))) (pss_one (ps_ret pe_bl)) pss_nil)
      (pss_one (ps_ret (pe_and (pe_ca (ok_lequ T) h2 T.g_lequ pass0 (pa_cons (pv 0) (pa_cons (pv 7) (pa_cons pe_bl pa_nil)))) (pe_one (pe_ca (ok_lsho T) hr T.g_lsho pass0 (pa_cons (pv 0) (pa_cons (pv 1) (pa_cons (pv 2) (pa_cons (pv 3) (pa_cons (pv 4) pa_nil)))))))))))))))))))))))), ?_⟩
    -- the dump, two copies, what is read
    refine ⟨_, rfl, _, rfl, _, rfl, _, rfl, pr, pl, pf, n, r, l, f, rfl, W, R.hr, R.hl, R.hf, fun H1 s1 => ?_⟩
    have lk1 := lk.same s1
    have R1 := R.same s1
    obtain ⟨dx, hp1⟩ := lk1.ob
    refine ⟨_, rfl, p, dx, _, rfl, hp1, rfl, p, pa, pb, pc, n, r, l, f, rfl, hn, lk1, fun H2 p1 a1 b1 c1 s2 np1 na1 nb1 nc1 t2 => ?_⟩
    have lk2 := lk1.same s2
    have R2 := R1.same s2
    have F1 : Fre H1 [a1, b1, c1] := all3 na1 nb1 nc1
    refine ⟨_, rfl, p, dx, _, rfl, s2 _ _ hp1, rfl, p, pa, pb, pc, n, r, l, f, rfl, hn, lk2, fun H3 p2 a2 b2 c2 s3 np2 na2 nb2 nc2 d3 => ?_⟩
    have lk3 := lk2.same s3
    have R3 := R2.same s3
    have t3 := t2.same s3
    have F2 : Fre H2 [a2, b2, c2] := all3 na2 nb2 nc2
    refine ⟨rfl, _, rfl, n, r, l, f, rfl, W, fun H4 p3 a3 b3 c3 s4 np3 na3 nb3 nc3 g4 => ?_⟩
    have lk4 := lk3.same s4
    have R4 := R3.same s4
    have t4 := t3.same s4
    have d4 := d3.same s4
    have F3 : Fre H3 [a3, b3, c3] := all3 na3 nb3 nc3
    have s14 : Same H1 H4 := (s2.trans s3).trans s4
    have jLT : Dj [pa, pb, pc] [a1, b1, c1] := dj_of lk1.ls F1
    have jRT : Dj [pr, pl, pf] [a1, b1, c1] := dj_of R1.ls F1
    have jLD : Dj [pa, pb, pc] [a2, b2, c2] := dj_of lk2.ls F2
    have jRD : Dj [pr, pl, pf] [a2, b2, c2] := dj_of R2.ls F2
    have jTD : Dj [a1, b1, c1] [a2, b2, c2] := dj_of t2.ls F2
    have jLG : Dj [pa, pb, pc] [a3, b3, c3] := dj_of lk3.ls F3
    have jRG : Dj [pr, pl, pf] [a3, b3, c3] := dj_of R3.ls F3
    have jTG : Dj [a1, b1, c1] [a3, b3, c3] := dj_of t3.ls F3
    have jDG : Dj [a2, b2, c2] [a3, b3, c3] := dj_of d3.ls F3
    dsimp only [gName]
    change tSeq _ (tSeq (tIfS _ ?tB _) ?tR) ?tD _ _
    -- refused
    have rf : ∀ bad : Bool, ((bad = true ∧ BadOp n op) ∨ (bad = false ∧ ¬ BadOp n op ∧ ∃ kk : Nat, ab op = kk ∧ f[kk]? = some (decide (op < 0)))) →
        ?tB { ?tD with nx := ?tR ?tD } [some (.ref p), some (.int n), some (.ref pr), some (.ref pl), some (.ref pf), some (.int op), some (.str (dmp n r l f)), some (.ref p1), some (.ref p2), some (.ref p3), some (.bl bad), none] H4 := by
      intro bad hb
      refine ⟨_, rfl, _, rfl, _, rfl, p, pa, pb, pc, n, r, l, f, op, bad, rfl, lk4, W, hb, fun H5 s5 => ⟨_, rfl, iteF ?_⟩⟩
      refine ⟨_, rfl, _, rfl, _, rfl, p1, a1, b1, c1, n, r, l, f, op, bad, rfl, t4.same s5, W, hb, fun H6 s6 => ⟨_, rfl, iteF ?_⟩⟩
      have s56 := s5.trans s6
      refine ⟨_, rfl, _, rfl, _, rfl, _, rfl, _, rfl, p, pa, pb, pc, pr, pl, pf, n, r, l, f, rfl, lk4.same s56, W, (R4.same s56).hr, (R4.same s56).hl, (R4.same s56).hf, fun H7 s7 => ⟨_, rfl, iteT ?_⟩⟩
      have s57 := s56.trans s7
      obtain ⟨dx1, hpt⟩ := (t4.same s57).ob
      refine ⟨_, rfl, p1, dx1, _, rfl, hpt, rfl, p1, a1, b1, c1, n, r, l, f, rfl, t4.same s57, W, fun H8 s8 => ⟨_, rfl, rfl, ?_⟩⟩
      have s58 := s57.trans s8
      exact q_true rfl (k _ r l f W (lk4.same s58) (R4.same s58) fun q o _ _ e => s58 _ _ (s14 _ _ (s1 _ _ e)))
    -- done
    have lg : ¬ BadOp n op → ∀ kk : Nat, ab op = kk → f[kk]? = some (!decide (op < 0)) →
        ?tR ?tD [some (.ref p), some (.int n), some (.ref pr), some (.ref pl), some (.ref pf), some (.int op), some (.str (dmp n r l f)), some (.ref p1), some (.ref p2), some (.ref p3), some (.bl false), none] H4 := by
      intro nb kk hk hf
      obtain ⟨kk', hk', k1, k2⟩ := not_bad nb
      obtain rfl : kk = kk' := by omega
      obtain ⟨lo, hi, hl, hh, b1', b2', b3'⟩ := W.lohi k1 k2
      have W1 := W.step (o := decide (op < 0)) k1 k2 b1' b2' b3'
      have hneq : false = decide (r ++ [(n : Int) + 2] = nr r kk lo hi (decide (op < 0)) ++ [(n : Int) + 2] ∧ l = nl l kk lo hi (decide (op < 0)) ∧ f = f.set kk (decide (op < 0))) := (decide_eq_false fun z => set_ne hf z.2.2).symm
      have hf1 : (f.set kk (decide (op < 0)))[kk]? = some (decide (op < 0)) := List.getElem?_set_self (List.getElem?_eq_some_iff.mp hf).1
      have h0 : op ≠ 0 := fun z => nb (.inl z)
      have hab : ab (-op) = ab op := by
        unfold ab
        by_cases c : op < 0
        · rw [if_pos c, if_neg (by omega)]
        · rw [if_neg c, if_pos (by omega)]
          omega
      have hk2 : ab (-op) = kk := by rw [hab]; exact hk
      have nb2 : ¬ BadOp n (-op) := by
        rintro (z | z)
        · exact h0 (by omega)
        · rw [hab] at z
          exact nb (.inr z)
      have hdec : (!decide (-op < 0)) = decide (op < 0) := by
        by_cases c : op < 0
        · rw [decide_eq_true c, decide_eq_false (by omega)]
          rfl
        · rw [decide_eq_false c, decide_eq_true (by omega)]
          rfl
      have hf2 : (f.set kk (decide (op < 0)))[kk]? = some (!decide (-op < 0)) := by rw [hdec]; exact hf1
      obtain ⟨lo2, hi2, hl2, hh2, c1', c2', c3'⟩ := W1.lohi k1 k2
      have W2 := W1.step (o := decide (-op < 0)) k1 k2 c1' c2' c3'
      have hneq2 : false = decide (nr r kk lo hi (decide (op < 0)) ++ [(n : Int) + 2] = nr (nr r kk lo hi (decide (op < 0))) kk lo2 hi2 (decide (-op < 0)) ++ [(n : Int) + 2] ∧ nl l kk lo hi (decide (op < 0)) = nl (nl l kk lo hi (decide (op < 0))) kk lo2 hi2 (decide (-op < 0)) ∧
          f.set kk (decide (op < 0)) = (f.set kk (decide (op < 0))).set kk (decide (-op < 0))) := (decide_eq_false fun z => set_ne hf2 z.2.2).symm
      -- the twin's step
      obtain ⟨dxt, hpt⟩ := t4.ob
      refine ⟨_, rfl, p1, dxt, _, rfl, hpt, rfl, _, rfl, p1, op, rfl, p1, a1, b1, c1, n, r, l, f, op, 0, rfl, t4, W, fun q => absurd q nb, fun k' _ e hf' => (ill hk hf e hf').elim, fun k' lo' hi' _ e hf' hl' hh' => ⟨rfl, ?_⟩⟩
      obtain ⟨rfl, rfl, rfl⟩ := st_same hk hl hh e hl' hh'
      clear e hf' hl' hh'
      have k5 : Keep [a1, b1, c1] H4 (Hst H4 a1 b1 c1 n r l f kk lo hi (decide (op < 0))) := hst_keep
      have t5 := t4.step (k := kk) (lo := lo) (hi := hi) (o := decide (op < 0))
      have lk5 := lk4.keep k5 t4.ls jLT
      have d5 := d4.keep k5 t4.ls jTD.symm
      have g5 := g4.keep k5 t4.ls jTG.symm
      have R5 := R4.keep k5 jRT
      have fr5 : ∀ q o, H q = some o → Hst H4 a1 b1 c1 n r l f kk lo hi (decide (op < 0)) q = some o := fun q o e => k5 q o (fun u hu => ne_of_none (s1 q o e) (F1 u hu)) (s14 _ _ (s1 _ _ e))
      generalize Hst H4 a1 b1 c1 n r l f kk lo hi (decide (op < 0)) = H5 at *
      refine ⟨rfl, _, rfl, iteF ?_⟩
      refine ⟨_, rfl, _, rfl, _, rfl, _, rfl, _, rfl, p, pa, pb, pc, pr, pl, pf, n, r, l, f, rfl, lk5, W, R5.hr, R5.hl, R5.hf, fun H6 s6 => ⟨_, rfl, iteF ?_⟩⟩
      have lk6 := lk5.same s6
      have t6 := t5.same s6
      have d6 := d5.same s6
      have g6 := g5.same s6
      have R6 := R5.same s6
      have fr6 : ∀ q o, H q = some o → H6 q = some o := fun q o e => s6 _ _ (fr5 q o e)
      refine ⟨_, rfl, _, rfl, p, .ref p1, false, rfl, eqTo_ins lk6 t6 hneq, _, rfl, iteF ?_⟩
      refine ⟨_, rfl, _, rfl, p, .ref p2, true, rfl, eqTo_ins lk6 d6 (by rw [dec_eq]; simp), _, rfl, iteF ?_⟩
      -- the step
      obtain ⟨dxl, hpl⟩ := lk6.ob
      refine ⟨_, rfl, p, dxl, _, rfl, hpl, rfl, _, rfl, p, op, rfl, p, pa, pb, pc, n, r, l, f, op, 0, rfl, lk6, W, fun q => absurd q nb, fun k' _ e hf' => (ill hk hf e hf').elim, fun k' lo' hi' _ e hf' hl' hh' => ⟨rfl, ?_⟩⟩
      obtain ⟨rfl, rfl, rfl⟩ := st_same hk hl hh e hl' hh'
      clear e hf' hl' hh'
      have k7 : Keep [pa, pb, pc] H6 (Hst H6 pa pb pc n r l f kk lo hi (decide (op < 0))) := hst_keep
      have lk7 := lk6.step (k := kk) (lo := lo) (hi := hi) (o := decide (op < 0))
      have t7 := t6.keep k7 lk6.ls jLT.symm
      have d7 := d6.keep k7 lk6.ls jLD.symm
      have g7 := g6.keep k7 lk6.ls jLG.symm
      have R7 := R6.keep k7 djR.symm
      have fr7 : ∀ q o, (∀ u ∈ [pa, pb, pc], q ≠ u) → H q = some o → Hst H6 pa pb pc n r l f kk lo hi (decide (op < 0)) q = some o := fun q o x e => k7 q o x (fr6 q o e)
      generalize Hst H6 pa pb pc n r l f kk lo hi (decide (op < 0)) = H7 at *
      refine ⟨rfl, _, rfl, iteF ?_⟩
      refine ⟨_, rfl, _, rfl, _, rfl, _, rfl, pr, pl, pf, n, r, l, f, op, kk, lo, hi, rfl, W, R7.hr, R7.hl, R7.hf, erl, erf, elf, hk, k1, k2, hl, hh, b1', b3', ?_⟩
      have k8 : Keep [pr, pl, pf] H7 (Hwr H7 pr pl pf r l f kk lo hi (decide (op < 0))) := hwr_keep
      have R8 : RAt (Hwr H7 pr pl pf r l f kk lo hi (decide (op < 0))) pr pl pf (nr r kk lo hi (decide (op < 0))) (nl l kk lo hi (decide (op < 0))) (f.set kk (decide (op < 0))) := RAt.step erl erf elf
      have lk8 := lk7.keep k8 R7.ls djR
      have t8 := t7.keep k8 R7.ls jRT.symm
      have d8 := d7.keep k8 R7.ls jRD.symm
      have g8 := g7.keep k8 R7.ls jRG.symm
      have fr8 : ∀ q o, (∀ u ∈ [pa, pb, pc], q ≠ u) → (∀ u ∈ [pr, pl, pf], q ≠ u) → H q = some o → Hwr H7 pr pl pf r l f kk lo hi (decide (op < 0)) q = some o := fun q o x y e => k8 q o y (fr7 q o x e)
      generalize Hwr H7 pr pl pf r l f kk lo hi (decide (op < 0)) = H8 at *
      refine ⟨_, rfl, _, rfl, _, rfl, _, rfl, pr, pl, pf, n, _, _, _, rfl, W1, R8.hr, R8.hl, R8.hf, fun H9 s9 => ?_⟩
      have lk9 := lk8.same s9
      have R9 := R8.same s9
      refine ⟨_, rfl, _, rfl, _, rfl, _, rfl, _, rfl, p, pa, pb, pc, pr, pl, pf, n, _, _, _, rfl, lk9, W1, R9.hr, R9.hl, R9.hf, fun H10 s10 => ⟨_, rfl, iteF ?_⟩⟩
      have s80 := s9.trans s10
      refine ⟨_, rfl, _, rfl, p, .ref p1, true, rfl, eqTo_ins (lk8.same s80) (t8.same s80) (by rw [dec_eq]; simp), _, rfl, iteF ?_⟩
      -- the dumps
      obtain ⟨dx2, hp2⟩ := (d8.same s80).ob
      refine ⟨_, rfl, p2, dx2, _, rfl, hp2, rfl, p2, a2, b2, c2, n, r, l, f, rfl, d8.same s80, W, fun H11 s11 => ⟨_, rfl, rfl, _, rfl, ?_⟩⟩
      rw [decide_eq_true rfl]
      have s81 := s80.trans s11
      obtain ⟨dx3, hp3⟩ := (g8.same s81).ob
      refine iteF ⟨_, rfl, p3, dx3, _, rfl, hp3, rfl, p3, a3, b3, c3, n, r, l, f, rfl, g8.same s81, W, fun H12 s12 => ⟨_, rfl, rfl, _, rfl, ?_⟩⟩
      rw [decide_eq_true rfl]
      have s82 := s81.trans s12
      obtain ⟨dx1, hp1'⟩ := (t8.same s82).ob
      refine iteF ⟨_, rfl, p1, dx1, _, rfl, hp1', rfl, p1, a1, b1, c1, n, _, _, _, rfl, t8.same s82, W1, fun H13 s13 => ⟨_, rfl, rfl, _, rfl, ?_⟩⟩
      rw [decide_eq_true rfl]
      have s83 := s82.trans s13
      refine iteF ?_
      -- refused the second time
      refine ⟨_, rfl, _, rfl, p1, a1, b1, c1, n, _, _, _, op, false, rfl, t8.same s83, W1, .inr ⟨rfl, nb, kk, hk, hf1⟩, fun H14 s14' => ⟨_, rfl, iteF ?_⟩⟩
      have s84 := s83.trans s14'
      have lkE := lk8.same s84
      have tE := t8.same s84
      have dE := d8.same s84
      have gE := g8.same s84
      have RE := R8.same s84
      obtain ⟨dxg, hpg⟩ := gE.ob
      refine ⟨_, rfl, p3, dxg, _, rfl, hpg, rfl, _, rfl, p3, op, rfl, p3, a3, b3, c3, n, r, l, f, op, 0, rfl, gE, W, fun q => absurd q nb, fun k' _ e hf' => (ill hk hf e hf').elim, fun k' lo' hi' _ e hf' hl' hh' => ⟨rfl, ?_⟩⟩
      obtain ⟨rfl, rfl, rfl⟩ := st_same hk hl hh e hl' hh'
      clear e hf' hl' hh'
      have k15 : Keep [a3, b3, c3] H14 (Hst H14 a3 b3 c3 n r l f kk lo hi (decide (op < 0))) := hst_keep
      have gF := gE.step (k := kk) (lo := lo) (hi := hi) (o := decide (op < 0))
      have lkF := lkE.keep k15 gE.ls jLG
      have tF := tE.keep k15 gE.ls jTG
      have dF := dE.keep k15 gE.ls jDG
      have RF := RE.keep k15 jRG
      have frF : ∀ q o, (∀ u ∈ [pa, pb, pc], q ≠ u) → (∀ u ∈ [pr, pl, pf], q ≠ u) → H q = some o → Hst H14 a3 b3 c3 n r l f kk lo hi (decide (op < 0)) q = some o := fun q o x y e =>
        k15 q o (fun u hu => ne_of_none (s3 _ _ (s2 _ _ (s1 q o e))) (F3 u hu)) (s84 _ _ (fr8 q o x y e))
      generalize Hst H14 a3 b3 c3 n r l f kk lo hi (decide (op < 0)) = H15 at *
      refine ⟨rfl, _, rfl, iteF ?_⟩
      -- the step back
      obtain ⟨dxu, hpu⟩ := tF.ob
      refine ⟨_, rfl, p1, dxu, _, rfl, hpu, rfl, _, rfl, _, rfl, p1, -op, rfl, p1, a1, b1, c1, n, _, _, _, -op, 0, rfl, tF, W1, fun q => absurd q nb2, fun k' _ e hf' => (ill hk2 hf2 e hf').elim, fun k' lo' hi' _ e hf' hl' hh' => ⟨rfl, ?_⟩⟩
      obtain ⟨rfl, rfl, rfl⟩ := st_same hk2 hl2 hh2 e hl' hh'
      clear e hf' hl' hh'
      have k16 : Keep [a1, b1, c1] H15 (Hst H15 a1 b1 c1 n (nr r kk lo hi (decide (op < 0))) (nl l kk lo hi (decide (op < 0))) (f.set kk (decide (op < 0))) kk lo2 hi2 (decide (-op < 0))) := hst_keep
      have tG := tF.step (k := kk) (lo := lo2) (hi := hi2) (o := decide (-op < 0))
      have lkG := lkF.keep k16 tF.ls jLT
      have dG := dF.keep k16 tF.ls jTD.symm
      have gG := gF.keep k16 tF.ls jTG.symm
      have RG := RF.keep k16 jRT
      have frG : ∀ q o, (∀ u ∈ [pa, pb, pc], q ≠ u) → (∀ u ∈ [pr, pl, pf], q ≠ u) → H q = some o → Hst H15 a1 b1 c1 n (nr r kk lo hi (decide (op < 0))) (nl l kk lo hi (decide (op < 0))) (f.set kk (decide (op < 0))) kk lo2 hi2 (decide (-op < 0)) q = some o := fun q o x y e =>
        k16 q o (fun u hu => ne_of_none (s1 q o e) (F1 u hu)) (frF q o x y e)
      generalize Hst H15 a1 b1 c1 n (nr r kk lo hi (decide (op < 0))) (nl l kk lo hi (decide (op < 0))) (f.set kk (decide (op < 0))) kk lo2 hi2 (decide (-op < 0)) = H16 at *
      refine ⟨rfl, _, rfl, iteF ?_⟩
      refine ⟨_, rfl, _, rfl, p, .ref p3, true, rfl, eqTo_ins lkG gG (by rw [dec_eq]; simp), _, rfl, iteF ?_⟩
      obtain ⟨dxv, hpv⟩ := dG.ob
      refine ⟨_, rfl, p2, dxv, _, rfl, hpv, rfl, p2, a2, b2, c2, n, r, l, f, rfl, dG, W, fun H17 s17 => ⟨_, rfl, rfl, _, rfl, ?_⟩⟩
      rw [decide_eq_true rfl]
      refine iteF ?_
      refine ⟨_, rfl, _, rfl, p, .ref p1, false, rfl, eqTo_ins (lkG.same s17) (tG.same s17) hneq2, _, rfl, iteT ?_⟩
      refine ⟨_, rfl, _, rfl, _, rfl, _, rfl, _, rfl, p, pa, pb, pc, pr, pl, pf, n, _, _, _, rfl, lkG.same s17, W1, (RG.same s17).hr, (RG.same s17).hl, (RG.same s17).hf, fun H18 s18 => ?_⟩
      have s68 := s17.trans s18
      exact k _ _ _ _ W1 (lkG.same s68) (RG.same s68) fun q o x y e => s68 _ _ (frG q o x y e)
    -- which of them
    refine ⟨_, rfl, rfl, _, rfl, ?_⟩
    refine ite2 (fun c => ?_) (fun c => ?_)
    · have e : op = 0 := by simpa using c
      exact ⟨_, rfl, _, rfl, iteT (iteT (rf true (.inl ⟨rfl, .inl e⟩)))⟩
    · have e0 : op ≠ 0 := by simpa using c
      refine ⟨_, rfl, _, rfl, _, rfl, _, _, rfl, rfl, ?_⟩
      dsimp only
      by_cases hb : (n : Int) < ab op
      · rw [show decide ((n : Int) < (if op < 0 then -op else op)) = true from decide_eq_true hb]
        exact ⟨_, rfl, _, rfl, iteT (iteT (rf true (.inl ⟨rfl, .inr hb⟩)))⟩
      · rw [show decide ((n : Int) < (if op < 0 then -op else op)) = false from decide_eq_false hb]
        have nb : ¬ BadOp n op := fun q => q.elim e0 hb
        obtain ⟨kk, hk, k1, k2⟩ := not_bad nb
        have lf := W.lf
        obtain ⟨fk, hfk⟩ := get_some (l := f) (i := kk) (by omega)
        have hat : atI (f.map V.bl) (if op < 0 then -op else op) = some (.bl fk) := by
          rw [show (if op < 0 then -op else op) = (kk : Int) from hk]
          exact at_map hfk
        refine ⟨_, rfl, false, rfl, iteF ⟨_, rfl, _, rfl, _, rfl, pf, _, _, _, rfl, rfl, .inl (.inl R4.hf), hat, _, rfl, _, _, rfl, rfl, rfl, _, rfl, ?_⟩⟩
        refine ite2 (fun z => ?_) (fun z => ?_)
        · have e : fk = decide (op < 0) := V.bl.inj (of_decide_eq_true z)
          exact rf false (.inr ⟨rfl, nb, kk, hk, by rw [hfk, e]⟩)
        · have e : fk = !decide (op < 0) := by
            have q' : fk ≠ decide (op < 0) := fun y => z (decide_eq_true (by rw [y]))
            revert q'
            cases fk <;> cases decide (op < 0) <;> simp
          exact lg nb kk hk (by rw [hfk, e])
end
end LL
namespace LL
open PySem PySem.Spec PyProof.Rows L2 TL
section
variable {w : World} {K : PySem.W.Frag} {mg : Str → Option Value} {base : Heap} {a : Ad}
/-! ### the law -/
def spLaw (K : PySem.W.Frag) : Sp := fun vs H Q _ => ∃ (x : Addr) (ns : List Int), vs = [.ref x] ∧ SqL K H x (ns.map V.int) ∧ ∀ H', Q (.bl true) H'
theorem WorldAt.but {H H' : Hp} {b q pr pl pf : Addr} {r l : List Int} {f : List Bool} (A : WorldAt H q pr pl pf r l f) (t : But b H H') (h0 : q ≠ b) (h1 : pr ≠ b) (h2 : pl ≠ b) (h3 : pf ≠ b) : WorldAt H' q pr pl pf r l f := ⟨t _ _ h0 A.hq, t _ _ h1 A.hr, t _ _ h2 A.hl, t _ _ h3 A.hf⟩
theorem LkAt.but {C : Addr} {H H' : Hp} {b p pa pb pc : Addr} {n : Nat} {r l : List Int} {f : List Bool} (k : LkAt C H p pa pb pc n r l f) (t : But b H H') (h0 : p ≠ b) (h1 : pa ≠ b) (h2 : pb ≠ b) (h3 : pc ≠ b) : LkAt C H' p pa pb pc n r l f :=
  ⟨let ⟨dx, e⟩ := k.ob; ⟨dx, t _ _ h0 e⟩, t _ _ h1 k.la, t _ _ h2 k.rb, t _ _ h3 k.fc, k.ab, k.ac, k.bc⟩
theorem RAt.but {H H' : Hp} {b pr pl pf : Addr} {r l : List Int} {f : List Bool} (k : RAt H pr pl pf r l f) (t : But b H H') (h1 : pr ≠ b) (h2 : pl ≠ b) (h3 : pf ≠ b) : RAt H' pr pl pf r l f := ⟨t _ _ h1 k.hr, t _ _ h2 k.hl, t _ _ h3 k.hf⟩
theorem sc_law : FnScope ["_law_script", "_law_box_here", "_law_size_here", "_law_far", "_law_world_here", "_law_near_here", "_law_rights", "_law_lefts", "_law_outs", "_law_links", "_law_turn", "_law_operation_here"] ["_law_script"] (defScope st_law) := ⟨rfl, rfl, rfl, by decide +kernel, rfl, by decide +kernel, by decide +kernel⟩
theorem fn_law (T : Txt K mg a) {fd : FuncData} (F : Fun K "law" "law" st_law a.law fd) : FnOk PW w K mg base CX0 7 a.law fd ["_law_script"] (spLaw K) := by
  refine F.ok sc_law (fun vs H Q E h => ?_) (fun cdv A outer s H vs Q E hr h => ?_)
  · obtain ⟨x, ns, rfl, _⟩ := h
    rfl
  · obtain ⟨x0, ns, rfl, hx0, k⟩ := h
    have h1 := hr.mono (show 1 ≤ 6 by decide)
    have h2 := hr.mono (show 2 ≤ 6 by decide)
    have h3 := hr.mono (show 3 ≤ 6 by decide)
    have h5 := hr.mono (show 5 ≤ 6 by decide)
    refine ⟨_, pss_cons (ps_set (i := 1) sc_law.nd rfl (.inl rfl) (pe_ca (ok_box T) h1 T.g_box pass0 (pa_cons (pv 0) pa_nil)))
      (pss_cons (ps_set (i := 2) sc_law.nd rfl (.inl rfl) (pe_ca (ok_lsize T) h2 T.g_lsize pass0 (pa_cons (pv 1) pa_nil)))
      (pss_cons (ps_set (i := 3) sc_law.nd rfl (.inl rfl) (pe_ca (ok_lfar T) h2 T.g_lfar pass0 (pa_cons (pv 1) pa_nil)))
      (pss_cons (ps_set (i := 4) sc_law.nd rfl (.inl rfl) (pe_ca (ok_lwor T) h3 T.g_lwor pass0 (pa_cons (pv 1) (pa_cons (pv 2) pa_nil))))
      (pss_cons (ps_set (i := 5) sc_law.nd rfl (.inl rfl) (pe_ca (ok_lnea T) h2 T.g_lnea pass0 (pa_cons (pv 1) (pa_cons (pv 2) (pa_cons (pv 4) pa_nil)))))
      (pss_cons (ps_set (i := 6) sc_law.nd rfl (.inl rfl) (pe_callTy call_list_of (by rfl) T.n_list (by decide +kernel) (pa_cons (pe_ix ix_list (pv 4) pe_int (fun _ _ => rfl)) pa_nil)))
      (pss_cons (ps_set (i := 7) sc_law.nd rfl (.inl rfl) (pe_callTy call_list_of (by rfl) T.n_list (by decide +kernel) (pa_cons (pe_ix ix_list (pv 4) pe_int (fun _ _ => rfl)) pa_nil)))
      (pss_cons (ps_set (i := 8) sc_law.nd rfl (.inl rfl) (pe_callTy call_list_of (by rfl) T.n_list (by decide +kernel) (pa_cons (pe_ix ix_list (pv 4) pe_int (fun _ _ => rfl)) pa_nil)))
      (pss_cons (ps_set (i := 9) sc_law.nd rfl (.inl rfl) (pe_sm (pe_glob (v := .ref a.L) rfl T.g_L rfl) T.crL T.m_rea (ok_rea T) h5 pass0 (pa_cons (pe_ca (ok_ldum T) h1 T.g_ldum pass0 (pa_cons (pv 2) (pa_cons (pv 6) (pa_cons (pv 7) (pa_cons (pv 8) pa_nil))))) pa_nil)))
      (pss_cons (ps_if (PW.pt (pw_or (pt_not (pt_val (pe_ca (ok_lwho T) hr T.g_lwho pass0 (pa_cons (pv 2) (pa_cons (pv 3) pa_nil))))) (pw_or1 (pt_not (pt_val (pe_ca (ok_lsho T) h5 T.g_lsho pass0 (pa_cons (pv 9) (pa_cons (pv 2) (pa_cons (pv 6) (pa_cons (pv 7) (pa_cons (pv 8) pa_nil))))))))))) (pss_one (ps_ret pe_bl)) pss_nil)
      (pss_cons (ps_if (pt_not (pt_val (pe_ca (ok_lnrs T) h3 T.g_lnrs pass0 (pa_cons (pv 9) (pa_cons (pv 2) (pa_cons (pe_ca (ok_draw T) h1 T.g_draw pass0 (pa_cons (pv 1) (pa_cons (pe_op op_pow pe_int pe_int) pa_nil))) pa_nil)))))) (pss_one (ps_ret pe_bl)) pss_nil)
      (pss_cons (ps_if (pt_not (pt_val (pe_ca (ok_leqr T) hr T.g_leqr pass0 (pa_cons (pv 9) (pa_cons (pv 2) (pa_cons (pv 4) (pa_cons (pv 5) pa_nil))))))) (pss_one (ps_ret pe_bl)) pss_nil)
      (pss_cons (ps_for PassesOwn.never rfl (pi_range1 (by rfl) T.n_range (pa_cons (pe_op op_add pe_int (pe_ca (ok_draw T) h1 T.g_draw pass0 (pa_cons (pv 1) (pa_cons pe_int pa_nil)))) pa_nil)) (pg_name (i := 10) sc_law.nd rfl (Or.inl rfl))
        (pss_cons (ps_set (i := 11) sc_law.nd rfl (.inl rfl) (pe_ca (ok_lope T) h2 T.g_lope pass0 (pa_cons (pv 1) (pa_cons (pv 2) (pa_cons (pv 8) pa_nil)))))
        (pss_one (ps_if (pt_not (pt_val (pe_ca (ok_ltur T) hr T.g_ltur pass0 (pa_cons (pv 9) (pa_cons (pv 2) (pa_cons (pv 6) (pa_cons (pv 7) (pa_cons (pv 8) (pa_cons (pv 11) pa_nil))))))))) (pss_one (ps_ret pe_bl)) pss_nil))))
      (pss_one (ps_ret pe_bl)))))))))))))), ?_⟩
    refine ⟨_, rfl, x0, ns, rfl, hx0, fun H1 b s0 s1 nb B1 => ?_⟩
    refine ⟨_, rfl, b, s0, rfl, B1, fun n H2 hn B2 t2 => ?_⟩
    refine ⟨_, rfl, b, s0, rfl, B2, fun z H3 hz B3 t3 => ?_⟩
    refine ⟨_, rfl, _, rfl, b, s0, n, rfl, hn, B3, fun H4 q qr ql qf r l f t4 B4 nq nqr nql nqf W A4 => ?_⟩
    have nbH : ∀ (H : Hp) (q : Addr), BoxAt H b s0 → H q = none → q ≠ b := fun H q B e z => by
      obtain ⟨o, x⟩ := B.tb
      rw [z, x] at e
      cases e
    have nsH : ∀ (H : Hp) (q : Addr), BoxAt H b s0 → H q = none → q ≠ s0 := fun H q B e z => by
      obtain ⟨o, x⟩ := B.ts
      rw [z, x] at e
      cases e
    refine ⟨_, rfl, _, rfl, _, rfl, b, s0, q, qr, ql, qf, n, r, l, f, rfl, B4, W, A4, fun H5 q' qr' ql' qf' r' l' g t5 B5 nq' nqr' nql' nqf' W' A5' => ?_⟩
    have A5 := A4.but t5 (nbH _ _ B3 nq) (nbH _ _ B3 nqr) (nbH _ _ B3 nql) (nbH _ _ B3 nqf)
    refine ⟨_, rfl, q, _, _, _, rfl, rfl, .inl (.inl A5.hq), rfl, qr, _, rfl, .inl (.inl (.inl A5.hr)), fun pr hpr => ?_⟩
    have s6 := same_upd (o := .lst (r.map V.int)) (Same.refl H5) hpr
    refine ⟨_, rfl, q, _, _, _, rfl, rfl, .inl (.inl (s6 _ _ A5.hq)), rfl, ql, _, rfl, .inl (.inl (.inl (s6 _ _ A5.hl))), fun pl hpl => ?_⟩
    have s7 := same_upd (o := .lst (l.map V.int)) s6 hpl
    refine ⟨_, rfl, q, _, _, _, rfl, rfl, .inl (.inl (s7 _ _ A5.hq)), rfl, qf, _, rfl, .inl (.inl (.inl (s7 _ _ A5.hf))), fun pf hpf => ?_⟩
    have s8 := same_upd (o := .lst (f.map V.bl)) s7 hpf
    obtain ⟨elr, hpl'⟩ := upd_none hpl
    obtain ⟨efl, hpf'⟩ := upd_none hpf
    obtain ⟨efr, hpf'⟩ := upd_none hpf'
    have R8 : RAt (upd (upd (upd H5 pr (.lst (r.map V.int))) pl (.lst (l.map V.int))) pf (.lst (f.map V.bl))) pr pl pf r l f :=
      ⟨by rw [upd_ne (Ne.symm efr), upd_ne (Ne.symm elr), upd_same], by rw [upd_ne (Ne.symm efl), upd_same], upd_same⟩
    generalize upd (upd (upd H5 pr (.lst (r.map V.int))) pl (.lst (l.map V.int))) pf (.lst (f.map V.bl)) = H8 at *
    refine ⟨rfl, _, rfl, _, rfl, _, rfl, _, rfl, pr, pl, pf, n, r, l, f, rfl, W, R8.hr, R8.hl, R8.hf, fun H9 s9 => ?_⟩
    have R9 := R8.same s9
    have B9 := (B5.same s8).same s9
    refine ⟨n, r, l, f, rfl, W, fun H10 p pa pb pc s10 np na nb1 nc lk10 => ?_⟩
    have djR : Dj [pa, pb, pc] [pr, pl, pf] := (dj_of R9.ls (all3 na nb1 nc)).symm
    have pb0 := nbH _ _ B9 np
    have pb1 := nbH _ _ B9 na
    have pb2 := nbH _ _ B9 nb1
    have pb3 := nbH _ _ B9 nc
    have ps1 := nsH _ _ B9 na
    have ps2 := nsH _ _ B9 nb1
    have ps3 := nsH _ _ B9 nc
    have rb1 := nbH _ _ B5 hpr
    have rb2 := nbH _ _ B5 hpl'
    have rb3 := nbH _ _ B5 hpf'
    have rs1 := nsH _ _ B5 hpr
    have rs2 := nsH _ _ B5 hpl'
    have rs3 := nsH _ _ B5 hpf'
    refine ⟨_, rfl, _, rfl, n, z, rfl, hn, hz, fun H11 s11 => ⟨_, rfl, iteF ?_⟩⟩
    have s911 := s10.trans s11
    have R11 := R9.same s911
    refine ⟨_, rfl, _, rfl, _, rfl, _, rfl, _, rfl, p, pa, pb, pc, pr, pl, pf, n, r, l, f, rfl, lk10.same s11, W, R11.hr, R11.hl, R11.hf, fun H12 s12 => ⟨_, rfl, iteF ?_⟩⟩
    have s912 := s911.trans s12
    have s512 := (s8.trans s9).trans s912
    have lk12 := (lk10.same s11).same s12
    refine ⟨_, rfl, _, rfl, _, rfl, _, _, rfl, rfl, ⟨by decide, by decide, by decide⟩, b, s0, _, rfl, by decide +kernel, by decide +kernel, B9.same s912, fun d H13 d0 d1 B13 t13 => ?_⟩
    have lk13 := lk12.but t13 pb0 pb1 pb2 pb3
    have R13 := (R9.same s912).but t13 rb1 rb2 rb3
    have A13 := (A5.same s512).but t13 (nbH _ _ B3 nq) (nbH _ _ B3 nqr) (nbH _ _ B3 nql) (nbH _ _ B3 nqf)
    have A13' := (A5'.same s512).but t13 (nbH _ _ B4 nq') (nbH _ _ B4 nqr') (nbH _ _ B4 nql') (nbH _ _ B4 nqf')
    refine ⟨d, p, pa, pb, pc, n, r, l, f, rfl, d0, lk13, W, fun H14 s14 => ⟨_, rfl, iteF ?_⟩⟩
    refine ⟨_, rfl, _, rfl, _, rfl, _, rfl, p, pa, pb, pc, q, qr, ql, qf, q', qr', ql', qf', n, r, l, r', l', f, g, rfl, lk13.same s14, W, W', A13.same s14, A13'.same s14, fun H15 s15 => ⟨_, rfl, iteF ?_⟩⟩
    have s135 := s14.trans s15
    refine ⟨_, rfl, b, s0, 4, rfl, by decide, by decide, B13.same s135, fun e H16 e0 e1 B16 t16 => ?_⟩
    refine ⟨_, _, rfl, rfl, _, rfl, by omega, by omega, ?_⟩
    refine for_range (lo := 0) (n := (1 + e).toNat) (fun _ σ H6 => ∃ (r l : List Int) (f : List Bool) (y y2 : Option V), σ = [some (.ref x0), some (.ref b), some (.int n), some (.int z), some (.ref q), some (.ref q'), some (.ref pr), some (.ref pl), some (.ref pf), some (.ref p), y, y2] ∧
      Wld n r l f ∧ LkAt a.L H6 p pa pb pc n r l f ∧ RAt H6 pr pl pf r l f ∧ BoxAt H6 b s0) ⟨r, l, f, _, _, rfl, W, (lk13.same s135).but t16 pb0 pb1 pb2 pb3, (R13.same s135).but t16 rb1 rb2 rb3, B16⟩ ?_ ?_
    · rintro i σ H6 hi ⟨r, l, f, y, y2, rfl, W, lk, R, B⟩
      refine ⟨_, rfl, _, rfl, _, rfl, b, s0, pf, n, f, rfl, hn, B, rb3, R.hf, W.lf, fun op H7 B7 t7 => ?_⟩
      refine ⟨_, rfl, _, rfl, _, rfl, _, rfl, _, rfl, _, rfl, p, pa, pb, pc, pr, pl, pf, n, r, l, f, op, rfl, lk.but t7 pb0 pb1 pb2 pb3, W, R.but t7 rb1 rb2 rb3, Ne.symm elr, Ne.symm efr, Ne.symm efl, djR, fun H8 r1 l1 f1 W1 lk1 R1 kp => ⟨_, rfl, iteF ?_⟩⟩
      refine ⟨r1, l1, f1, _, _, rfl, W1, lk1, R1, ?_⟩
      obtain ⟨ms, j, v2, v3, v4, eb, es, hj⟩ := B7.ex
      exact ⟨ms, j, v2, v3, v4, kp _ _ (all3 (Ne.symm pb1) (Ne.symm pb2) (Ne.symm pb3)) (all3 (Ne.symm rb1) (Ne.symm rb2) (Ne.symm rb3)) eb, kp _ _ (all3 (Ne.symm ps1) (Ne.symm ps2) (Ne.symm ps3)) (all3 (Ne.symm rs1) (Ne.symm rs2) (Ne.symm rs3)) es, hj⟩
    · rintro σ H6 ⟨r, l, f, y, y2, rfl, W, lk, R, B⟩
      exact k _
end
end LL
namespace LL
open PySem PySem.Spec PyProof.Rows L2 TL
section
variable {w : World} {K : PySem.W.Frag} {mg : Str → Option Value} {base : Heap} {a : Ad}
/-! ### the end: what the top has left -/
theorem dn_mk {x qual : Str} {st : Stmt} {ps : List Str} {f : Addr} {oc : Value} {od an : Option Addr} {osl : Array (Option Value)} {kV doc pm cdv ct : Value} (l : K.lookup f = some ⟨oc, od, .func (PySem.W.fnOf x qual (defArgs st) (defBody st) (defScope st) .none kV doc pm an cdv ct), osl⟩)
    (c : PySem.W.codeIn K cdv qual = true) (k : PySem.W.keepIn K (.ref f) = true)
    (hb : ∀ us : List Value, us.length = ps.length → bindArgs (PySem.W.fnOf x qual (defArgs st) (defBody st) (defScope st) .none kV doc pm an cdv ct) ⟨us, []⟩ = pure (ps.zip us)) : Dn K x qual st ps f := ⟨_, fun_mk l c k, .all hb⟩
theorem sm_mk {C p g : Addr} {m : Str} {mc : Value} {rest : List Value} (h1 : PySem.W.findCls K (.ref C) mc m = some (.get (.builtin "staticmethod.__get__") (.ref p) .none (.ref C))) (h2 : PySem.W.recIn K p "staticmethod" = some (.ref g :: rest)) (h3 : PySem.W.keepIn K (.ref g) = true) : SMet K C mc m p g := ⟨h1, ⟨_, h2⟩, h3⟩
theorem exx_mk {C fI cda cc N : Addr} {qual nm q : Str} {st : Stmt} {bs bm : List Value} {sn : List Str} {sub : List Value} {ab : Bool} {col : Option Bool} {dd : Option Addr} {k0 k1 k2 k3 k5 : Option Value}
    {oc kV doc pm ct : Value} {od an : Option Addr} {osl : Array (Option Value)} {ccl cl : Value} {cdd cld : Option Addr} {vs : Array Value} {ccs csl : Array (Option Value)} {file : Str} {tf : Tok}
    (x1 : PySem.W.findIn K (.ref C) "__init__" = some (some (.ref fI))) (x2 : PySem.W.typeIn K (.ref fI) = some (.type "function"))
    (x3 : K.lookup fI = some ⟨oc, od, .func (PySem.W.ksFn "__init__" qual (L2.defArgs st) (L2.defBody st) (L2.defScope st) .none kV doc pm an (.ref cda) ct cc), osl⟩) (x4 : PySem.W.codeIn K (.ref cda) qual = true)
    (x5 : K.lookup cda = some ⟨ccl, cdd, .fields vs, ccs⟩) (x6 : K.lookup cc = some ⟨cl, cld, .cell (some (.ref C)), csl⟩)
    (x7 : K.lookup C = some (excClassObj nm q C N bs bm true sn sub ab col dd k0 k1 k2 k3 k5 "ValueError.__new__"))
    (x8 : PySem.W.findIn K (.ref C) "__setattr__" = some (some (.builtin "object.__setattr__"))) (x9 : PySem.W.subIn K (.ref C) (.type "BaseException") = some true) (x10 : PySem.W.subIn K (.ref C) (.type "ValueError") = some true)
    (x11 : PySem.W.typeIn K (.ref C) = some (.type "type")) (x12 : PySem.W.keepIn K (.ref C) = true) (x13 : PySem.W.nsIn K cStatics "thirdparty.any" = some none)
    (x14 : PySem.W.findIn K (.ref C) "__getattribute__" = some (some (.builtin "BaseException.__getattribute__"))) (x15 : PySem.W.findIn K (.ref C) "__getattr__" = some none) (x16 : PySem.W.hasDictIn K C = true)
    (x17 : PySem.W.findIn K (.ref C) "__class__" = some (some (.builtin "object.__class__"))) (x18 : PySem.W.specialIn K (.builtin "object.__class__") "__get__" = some (some (.builtin "getset_descriptor.__get__")))
    (x19 : PySem.W.takesIn K (.builtin "object.__class__") = some true) (x20 : PySem.W.mroIn K C (.type "object") = some true)
    (y1 : PySem.HandSPX.refsVE bm = true) (y2 : PySem.W.alongIn K "__init__" bm = some (some (.builtin "ValueError.__init__"))) (y3 : vs[2]? = some (.str file tf)) (y4 : ((PW.main.file : Str) == file) = true) :
    ExC K C ∧ IniF PW K C fI qual st ∧ L2.ExcC K C ∧ XfC K C :=
  ⟨⟨⟨nm, q, N, bs, bm, sn, sub, ab, col, dd, k0, k1, k2, k3, k5, x7, y1, y2⟩, x8, x9, x10, x11, x12, x13⟩,
    ⟨x1, x2, ⟨oc, od, kV, doc, pm, an, cda, ct, osl, cc, x3, x4, ⟨ccl, cdd, vs, ccs, file, tf, x5, y3, y4⟩, ⟨cl, cld, csl, x6⟩⟩, by decide +kernel⟩,
    ⟨x14, x15, x9, x16, x17, x18, x19, x20⟩, ⟨x14, x15, x9, x16⟩⟩
theorem all_mk {P : Program} {h : Heap} {fa : Addr} {mc : Value} {tmo t_MOST_NODES t_MOST_DIGITS t_PARTS : Tok} {L pbui prea cs co inu nums rr rl ro ini bui rea lef rig iso app apa cop dum dpa sst sle seq box draw lis lsize lfar lwor lben ldum lwri lsho lnr lnrs lwho lequ leqr lnea lope lref ltur law BO iBO IL iIL BS iBS BN iBN RE BG LO LI : Addr} {rbui rrea : List Value} {oc kV dc pm cd ct : Value} {od an : Option Addr} {sl : Array (Option Value)} (eP : P = PW) (X : K.In h) (G : h.Ns mainGlobals mg) (hfa : mg "law" = some (.ref fa))
    (aL : PySem.W.nsIn K mainGlobals "Links" = some (some (.ref L)))
    (tL : PySem.W.typeIn K (.ref L) = some mc)
    (pg : PySem.W.plainGet K L Str.empty = true)
    (hdL : PySem.W.hasDictIn K L = true)
    (po : PySem.W.plainOver K L = true)
    (saL : PySem.W.findIn K (.ref L) "__setattr__" = some (some (.builtin "object.__setattr__")))
    (mk : PySem.W.makesIn K L = true)
    (kcL : PySem.W.keepIn K (.ref L) = true)
    (rdL : PySem.W.readsIn K L mc = true)
    (gaL : PySem.W.specialIn K (.ref L) "__getattribute__" = some (some (.builtin "type.__getattribute__")))
    (mo : PySem.W.findCls K (.ref L) mc "MOST" = some (.val (.int 60 tmo)))
    (nL_size : PySem.W.findIn K (.ref L) "size" = some none)
    (nL_lefts : PySem.W.findIn K (.ref L) "_lefts" = some none)
    (nL_rights : PySem.W.findIn K (.ref L) "_rights" = some none)
    (nL_flags : PySem.W.findIn K (.ref L) "_flags" = some none)
    (nfi : PySem.W.notFirst K L (.type "int") = true)
    (nfs : PySem.W.notFirst K L (.type "str") = true)
    (tcl : PySem.W.findIn K (.ref L) "__class__" = some (some (.builtin "object.__class__")))
    (tsp : PySem.W.specialIn K (.builtin "object.__class__") "__get__" = some (some (.builtin "getset_descriptor.__get__")))
    (ttk : PySem.W.takesIn K (.builtin "object.__class__") = some true)
    (tmr : PySem.W.mroIn K L (.type "object") = some true)
    (a_cs : PySem.W.nsIn K mainGlobals "check_size" = some (some (.ref cs)))
    (d_cs : Dn K "check_size" "check_size" st_cs ["size"] cs)
    (a_co : PySem.W.nsIn K mainGlobals "check_operation" = some (some (.ref co)))
    (d_co : Dn K "check_operation" "check_operation" st_co ["size", "operation", "index"] co)
    (a_inu : PySem.W.nsIn K mainGlobals "is_number" = some (some (.ref inu)))
    (d_inu : Dn K "is_number" "is_number" st_inu ["word"] inu)
    (a_nums : PySem.W.nsIn K mainGlobals "_numbers" = some (some (.ref nums)))
    (d_nums : Dn K "_numbers" "_numbers" st_nums ["part"] nums)
    (a_rr : PySem.W.nsIn K mainGlobals "_read_rights" = some (some (.ref rr)))
    (d_rr : Dn K "_read_rights" "_read_rights" st_rr ["part"] rr)
    (a_rl : PySem.W.nsIn K mainGlobals "_read_lefts" = some (some (.ref rl)))
    (d_rl : Dn K "_read_lefts" "_read_lefts" st_rl ["part", "size"] rl)
    (a_ro : PySem.W.nsIn K mainGlobals "_read_outs" = some (some (.ref ro)))
    (d_ro : Dn K "_read_outs" "_read_outs" st_ro ["part", "size"] ro)
    (a_ini : PySem.W.findIn K (.ref L) "__init__" = some (some (.ref ini)))
    (fn_ini : PySem.W.isFn K (.ref ini) = true)
    (d_ini : Dn K "__init__" "Links.__init__" st_ini ["self", "size"] ini)
    (a_bui : PySem.W.findCls K (.ref L) mc "built" = some (.get (.builtin "staticmethod.__get__") (.ref pbui) .none (.ref L)))
    (r_bui : PySem.W.recIn K pbui "staticmethod" = some (.ref bui :: rbui))
    (kp_bui : PySem.W.keepIn K (.ref bui) = true)
    (d_bui : Dn K "built" "Links.built" st_bui ["size", "lefts", "rights", "flags"] bui)
    (a_rea : PySem.W.findCls K (.ref L) mc "read" = some (.get (.builtin "staticmethod.__get__") (.ref prea) .none (.ref L)))
    (r_rea : PySem.W.recIn K prea "staticmethod" = some (.ref rea :: rrea))
    (kp_rea : PySem.W.keepIn K (.ref rea) = true)
    (d_rea : Dn K "read" "Links.read" st_rea ["text"] rea)
    (a_lef : PySem.W.findIn K (.ref L) "left" = some (some (.ref lef)))
    (fn_lef : PySem.W.isFn K (.ref lef) = true)
    (kp_lef : PySem.W.keepIn K (.ref lef) = true)
    (d_lef : Dn K "left" "Links.left" st_lef ["self", "node"] lef)
    (a_rig : PySem.W.findIn K (.ref L) "right" = some (some (.ref rig)))
    (fn_rig : PySem.W.isFn K (.ref rig) = true)
    (kp_rig : PySem.W.keepIn K (.ref rig) = true)
    (d_rig : Dn K "right" "Links.right" st_rig ["self", "node"] rig)
    (a_iso : PySem.W.findIn K (.ref L) "is_out" = some (some (.ref iso)))
    (fn_iso : PySem.W.isFn K (.ref iso) = true)
    (kp_iso : PySem.W.keepIn K (.ref iso) = true)
    (d_iso : Dn K "is_out" "Links.is_out" st_iso ["self", "node"] iso)
    (a_app : PySem.W.findIn K (.ref L) "apply" = some (some (.ref app)))
    (fn_app : PySem.W.isFn K (.ref app) = true)
    (kp_app : PySem.W.keepIn K (.ref app) = true)
    (d_app : Dn K "apply" "Links.apply" st_app ["self", "operation"] app)
    (a_apa : PySem.W.findIn K (.ref L) "apply_at" = some (some (.ref apa)))
    (fn_apa : PySem.W.isFn K (.ref apa) = true)
    (kp_apa : PySem.W.keepIn K (.ref apa) = true)
    (d_apa : Dn K "apply_at" "Links.apply_at" st_apa ["self", "operation", "index"] apa)
    (a_cop : PySem.W.findIn K (.ref L) "copy" = some (some (.ref cop)))
    (fn_cop : PySem.W.isFn K (.ref cop) = true)
    (kp_cop : PySem.W.keepIn K (.ref cop) = true)
    (d_cop : Dn K "copy" "Links.copy" st_cop ["self"] cop)
    (a_dum : PySem.W.findIn K (.ref L) "dump" = some (some (.ref dum)))
    (fn_dum : PySem.W.isFn K (.ref dum) = true)
    (kp_dum : PySem.W.keepIn K (.ref dum) = true)
    (d_dum : Dn K "dump" "Links.dump" st_dum ["self"] dum)
    (a_dpa : PySem.W.findIn K (.ref L) "_dump_parts" = some (some (.ref dpa)))
    (fn_dpa : PySem.W.isFn K (.ref dpa) = true)
    (kp_dpa : PySem.W.keepIn K (.ref dpa) = true)
    (d_dpa : Dn K "_dump_parts" "Links._dump_parts" st_dpa ["self"] dpa)
    (a_sst : PySem.W.findIn K (.ref L) "__str__" = some (some (.ref sst)))
    (fn_sst : PySem.W.isFn K (.ref sst) = true)
    (d_sst : Dn K "__str__" "Links.__str__" st_sst ["self"] sst)
    (a_sle : PySem.W.findIn K (.ref L) "__len__" = some (some (.ref sle)))
    (fn_sle : PySem.W.isFn K (.ref sle) = true)
    (d_sle : Dn K "__len__" "Links.__len__" st_sle ["self"] sle)
    (a_seq : PySem.W.findIn K (.ref L) "__eq__" = some (some (.ref seq)))
    (fn_seq : PySem.W.isFn K (.ref seq) = true)
    (d_seq : Dn K "__eq__" "Links.__eq__" st_seq ["self", "other"] seq)
    (a_box : PySem.W.nsIn K mainGlobals "_law_box" = some (some (.ref box)))
    (d_box : Dn K "_law_box" "_law_box" st_box ["_law_script"] box)
    (a_draw : PySem.W.nsIn K mainGlobals "_law_draw" = some (some (.ref draw)))
    (d_draw : Dn K "_law_draw" "_law_draw" st_draw ["_law_box_here", "_law_many"] draw)
    (a_lis : PySem.W.nsIn K mainGlobals "_law_is" = some (some (.ref lis)))
    (d_lis : Dn K "_law_is" "_law_is" st_lis ["_law_told", "_law_due"] lis)
    (a_lsize : PySem.W.nsIn K mainGlobals "_law_size" = some (some (.ref lsize)))
    (d_lsize : Dn K "_law_size" "_law_size" st_lsize ["_law_box_here"] lsize)
    (a_lfar : PySem.W.nsIn K mainGlobals "_law_far_size" = some (some (.ref lfar)))
    (d_lfar : Dn K "_law_far_size" "_law_far_size" st_lfar ["_law_box_here"] lfar)
    (a_lwor : PySem.W.nsIn K mainGlobals "_law_world" = some (some (.ref lwor)))
    (d_lwor : Dn K "_law_world" "_law_world" st_lwor ["_law_box_here", "_law_size_here"] lwor)
    (a_lben : PySem.W.nsIn K mainGlobals "_law_bend" = some (some (.ref lben)))
    (d_lben : Dn K "_law_bend" "_law_bend" st_lben ["_law_box_here", "_law_size_here", "_law_rights", "_law_lefts"] lben)
    (a_ldum : PySem.W.nsIn K mainGlobals "_law_dump" = some (some (.ref ldum)))
    (d_ldum : Dn K "_law_dump" "_law_dump" st_ldum ["_law_size_here", "_law_rights", "_law_lefts", "_law_outs"] ldum)
    (a_lwri : PySem.W.nsIn K mainGlobals "_law_write" = some (some (.ref lwri)))
    (d_lwri : Dn K "_law_write" "_law_write" st_lwri ["_law_rights", "_law_lefts", "_law_outs", "_law_operation_here"] lwri)
    (a_lsho : PySem.W.nsIn K mainGlobals "_law_shown" = some (some (.ref lsho)))
    (d_lsho : Dn K "_law_shown" "_law_shown" st_lsho ["_law_links", "_law_size_here", "_law_rights", "_law_lefts", "_law_outs"] lsho)
    (a_lnr : PySem.W.nsIn K mainGlobals "_law_node_refused" = some (some (.ref lnr)))
    (d_lnr : Dn K "_law_node_refused" "_law_node_refused" st_lnr ["_law_way", "_law_links", "_law_node"] lnr)
    (a_lnrs : PySem.W.nsIn K mainGlobals "_law_nodes_refused" = some (some (.ref lnrs)))
    (d_lnrs : Dn K "_law_nodes_refused" "_law_nodes_refused" st_lnrs ["_law_links", "_law_size_here", "_law_far"] lnrs)
    (a_lwho : PySem.W.nsIn K mainGlobals "_law_whole_right" = some (some (.ref lwho)))
    (d_lwho : Dn K "_law_whole_right" "_law_whole_right" st_lwho ["_law_size_here", "_law_far"] lwho)
    (a_lequ : PySem.W.nsIn K mainGlobals "_law_equal" = some (some (.ref lequ)))
    (d_lequ : Dn K "_law_equal" "_law_equal" st_lequ ["_law_links", "_law_other", "_law_due"] lequ)
    (a_leqr : PySem.W.nsIn K mainGlobals "_law_equals_right" = some (some (.ref leqr)))
    (d_leqr : Dn K "_law_equals_right" "_law_equals_right" st_leqr ["_law_links", "_law_size_here", "_law_world_here", "_law_near_here"] leqr)
    (a_lnea : PySem.W.nsIn K mainGlobals "_law_near" = some (some (.ref lnea)))
    (d_lnea : Dn K "_law_near" "_law_near" st_lnea ["_law_box_here", "_law_size_here", "_law_world_here"] lnea)
    (a_lope : PySem.W.nsIn K mainGlobals "_law_operation" = some (some (.ref lope)))
    (d_lope : Dn K "_law_operation" "_law_operation" st_lope ["_law_box_here", "_law_size_here", "_law_outs"] lope)
    (a_lref : PySem.W.nsIn K mainGlobals "_law_refused" = some (some (.ref lref)))
    (d_lref : Dn K "_law_refused" "_law_refused" st_lref ["_law_links", "_law_operation_here", "_law_bad"] lref)
    (a_ltur : PySem.W.nsIn K mainGlobals "_law_turn_right" = some (some (.ref ltur)))
    (d_ltur : Dn K "_law_turn_right" "_law_turn_right" st_ltur ["_law_links", "_law_size_here", "_law_rights", "_law_lefts", "_law_outs", "_law_operation_here"] ltur)
    (a_law : PySem.W.nsIn K mainGlobals "law" = some (some (.ref law)))
    (l_law : K.lookup law = some ⟨oc, od, .func (PySem.W.fnOf "law" "law" (defArgs st_law) (defBody st_law) (defScope st_law) .none kV dc pm an cd ct), sl⟩)
    (c_law : PySem.W.codeIn K cd "law" = true)
    (q_law : PySem.W.keepIn K (.ref law) = true)
    (g_BO : PySem.W.nsIn K mainGlobals "BadOperation" = some (some (.ref BO)))
    (e_BO : ExC K BO ∧ IniF PW K BO iBO "BadOperation.__init__" st_BO ∧ L2.ExcC K BO ∧ XfC K BO)
    (no_BO_operation : PySem.W.findIn K (.ref BO) "operation" = some none)
    (no_BO_index : PySem.W.findIn K (.ref BO) "index" = some none)
    (g_IL : PySem.W.nsIn K mainGlobals "Illegal" = some (some (.ref IL)))
    (e_IL : ExC K IL ∧ IniF PW K IL iIL "Illegal.__init__" st_IL ∧ L2.ExcC K IL ∧ XfC K IL)
    (no_IL_operation : PySem.W.findIn K (.ref IL) "operation" = some none)
    (no_IL_index : PySem.W.findIn K (.ref IL) "index" = some none)
    (g_BS : PySem.W.nsIn K mainGlobals "BadSize" = some (some (.ref BS)))
    (e_BS : ExC K BS ∧ IniF PW K BS iBS "BadSize.__init__" st_BS ∧ L2.ExcC K BS ∧ XfC K BS)
    (no_BS_size : PySem.W.findIn K (.ref BS) "size" = some none)
    (g_BN : PySem.W.nsIn K mainGlobals "BadNode" = some (some (.ref BN)))
    (e_BN : ExC K BN ∧ IniF PW K BN iBN "BadNode.__init__" st_BN ∧ L2.ExcC K BN ∧ XfC K BN)
    (no_BN_node : PySem.W.findIn K (.ref BN) "node" = some none)
    (g_RE : PySem.W.nsIn K mainGlobals "Refused" = some (some (.ref RE)))
    (g_BG : PySem.W.nsIn K mainGlobals "BadGap" = some (some (.ref BG)))
    (g_LO : PySem.W.nsIn K mainGlobals "LogError" = some (some (.ref LO)))
    (g_LI : PySem.W.nsIn K mainGlobals "LinkError" = some (some (.ref LI)))
    (kLL : PySem.W.kitOne K (.ref L) (.ref L) = some true)
    (kiL : PySem.W.kitOne K (.type "int") (.ref L) = some false)
    (ksL : PySem.W.kitOne K (.type "str") (.ref L) = some false)
    (k_BN_BG : PySem.W.kitOne K (.ref BN) (.ref BG) = some false)
    (k_BN_BS : PySem.W.kitOne K (.ref BN) (.ref BS) = some false)
    (k_BN_LO : PySem.W.kitOne K (.ref BN) (.ref LO) = some false)
    (k_BN_LI : PySem.W.kitOne K (.ref BN) (.ref LI) = some true)
    (k_BN_VE : PySem.W.kitOne K (.ref BN) (.type "ValueError") = some true)
    (k_BS_LO : PySem.W.kitOne K (.ref BS) (.ref LO) = some false)
    (k_BS_LI : PySem.W.kitOne K (.ref BS) (.ref LI) = some true)
    (k_BS_VE : PySem.W.kitOne K (.ref BS) (.type "ValueError") = some true)
    (k_BO_IL : PySem.W.kitOne K (.ref BO) (.ref IL) = some false)
    (k_BO_RE : PySem.W.kitOne K (.ref BO) (.ref RE) = some false)
    (k_BO_LO : PySem.W.kitOne K (.ref BO) (.ref LO) = some true)
    (k_BO_LI : PySem.W.kitOne K (.ref BO) (.ref LI) = some true)
    (k_BO_VE : PySem.W.kitOne K (.ref BO) (.type "ValueError") = some true)
    (k_IL_BO : PySem.W.kitOne K (.ref IL) (.ref BO) = some false)
    (k_IL_RE : PySem.W.kitOne K (.ref IL) (.ref RE) = some false)
    (k_IL_LO : PySem.W.kitOne K (.ref IL) (.ref LO) = some true)
    (k_IL_LI : PySem.W.kitOne K (.ref IL) (.ref LI) = some true)
    (k_IL_VE : PySem.W.kitOne K (.ref IL) (.type "ValueError") = some true)
    (m_BN_BN : PySem.W.exmOne K (.ref BN) (.ref BN) = some true)
    (m_BS_BS : PySem.W.exmOne K (.ref BS) (.ref BS) = some true)
    (m_BO_BO : PySem.W.exmOne K (.ref BO) (.ref BO) = some true)
    (m_IL_BO : PySem.W.exmOne K (.ref IL) (.ref BO) = some false)
    (m_IL_IL : PySem.W.exmOne K (.ref IL) (.ref IL) = some true)
    (n_abs : PySem.W.nsIn K mainGlobals "abs" = some none)
    (n_len : PySem.W.nsIn K mainGlobals "len" = some none)
    (n_int : PySem.W.nsIn K mainGlobals "int" = some none)
    (n_enumerate : PySem.W.nsIn K mainGlobals "enumerate" = some none)
    (n_list : PySem.W.nsIn K mainGlobals "list" = some none)
    (n_range : PySem.W.nsIn K mainGlobals "range" = some none)
    (n_str : PySem.W.nsIn K mainGlobals "str" = some none)
    (n_isinstance : PySem.W.nsIn K mainGlobals "isinstance" = some none)
    (n_bool : PySem.W.nsIn K mainGlobals "bool" = some none)
    (n_ValueError : PySem.W.nsIn K mainGlobals "ValueError" = some none)
    (n_super : PySem.W.nsIn K mainGlobals "super" = some none)
    (v_MOST_NODES : PySem.W.nsIn K mainGlobals "MOST_NODES" = some (some (.int 60 t_MOST_NODES)))
    (v_MOST_DIGITS : PySem.W.nsIn K mainGlobals "MOST_DIGITS" = some (some (.int 9 t_MOST_DIGITS)))
    (v_PARTS : PySem.W.nsIn K mainGlobals "PARTS" = some (some (.int 3 t_PARTS)))
    : ∃ fd : FuncData, (∀ (s : Shared) (v : Value), BindsTo s fd ⟨[v], []⟩ [("_law_script", v)]) ∧ ∀ base : Heap, K.In base → base.Ns mainGlobals mg → FnOk P w K mg base CX0 7 fa fd ["_law_script"] (spLaw K) := by
  subst eP
  have e := hfa.symm.trans (PySem.W.mg_of X G a_law)
  cases e
  have F := fun_mk (st := st_law) l_law c_law q_law
  have T : Txt K mg ⟨L, mc, pbui, prea, cs, co, inu, nums, rr, rl, ro, ini, bui, rea, lef, rig, iso, app, apa, cop, dum, dpa, sst, sle, seq, box, draw, lis, lsize, lfar, lwor, lben, ldum, lwri, lsho, lnr, lnrs, lwho, lequ, leqr, lnea, lope, lref, ltur, fa, BO, iBO, IL, iIL, BS, iBS, BN, iBN, RE, BG, LO, LI⟩ := by
    refine { d_law := ⟨_, F, .all fun us hl => match us, hl with | [_], _ => rfl⟩, d_cs := d_cs, d_co := d_co, d_inu := d_inu, d_nums := d_nums, d_rr := d_rr, d_rl := d_rl, d_ro := d_ro, d_ini := d_ini, d_bui := d_bui, d_rea := d_rea, d_lef := d_lef, d_rig := d_rig, d_iso := d_iso, d_app := d_app, d_apa := d_apa, d_cop := d_cop, d_dum := d_dum, d_dpa := d_dpa, d_sst := d_sst, d_sle := d_sle, d_seq := d_seq, d_box := d_box, d_draw := d_draw, d_lis := d_lis, d_lsize := d_lsize, d_lfar := d_lfar, d_lwor := d_lwor, d_lben := d_lben, d_ldum := d_ldum, d_lwri := d_lwri, d_lsho := d_lsho, d_lnr := d_lnr, d_lnrs := d_lnrs, d_lwho := d_lwho, d_lequ := d_lequ, d_leqr := d_leqr, d_lnea := d_lnea, d_lope := d_lope, d_lref := d_lref, d_ltur := d_ltur, g_cs := PySem.W.mg_of X G a_cs, g_co := PySem.W.mg_of X G a_co, g_inu := PySem.W.mg_of X G a_inu, g_nums := PySem.W.mg_of X G a_nums, g_rr := PySem.W.mg_of X G a_rr, g_rl := PySem.W.mg_of X G a_rl, g_ro := PySem.W.mg_of X G a_ro, g_box := PySem.W.mg_of X G a_box, g_draw := PySem.W.mg_of X G a_draw, g_lis := PySem.W.mg_of X G a_lis, g_lsize := PySem.W.mg_of X G a_lsize, g_lfar := PySem.W.mg_of X G a_lfar, g_lwor := PySem.W.mg_of X G a_lwor, g_lben := PySem.W.mg_of X G a_lben, g_ldum := PySem.W.mg_of X G a_ldum, g_lwri := PySem.W.mg_of X G a_lwri, g_lsho := PySem.W.mg_of X G a_lsho, g_lnr := PySem.W.mg_of X G a_lnr, g_lnrs := PySem.W.mg_of X G a_lnrs, g_lwho := PySem.W.mg_of X G a_lwho, g_lequ := PySem.W.mg_of X G a_lequ, g_leqr := PySem.W.mg_of X G a_leqr, g_lnea := PySem.W.mg_of X G a_lnea, g_lope := PySem.W.mg_of X G a_lope, g_lref := PySem.W.mg_of X G a_lref, g_ltur := PySem.W.mg_of X G a_ltur, g_law := PySem.W.mg_of X G a_law, m_lef := ⟨a_lef, fn_lef, kp_lef⟩, m_rig := ⟨a_rig, fn_rig, kp_rig⟩, m_iso := ⟨a_iso, fn_iso, kp_iso⟩, m_app := ⟨a_app, fn_app, kp_app⟩, m_apa := ⟨a_apa, fn_apa, kp_apa⟩, m_cop := ⟨a_cop, fn_cop, kp_cop⟩, m_dum := ⟨a_dum, fn_dum, kp_dum⟩, m_dpa := ⟨a_dpa, fn_dpa, kp_dpa⟩, m_sst := ⟨a_sst, fn_sst⟩, m_sle := ⟨a_sle, fn_sle⟩, m_seq := ⟨a_seq, fn_seq⟩, m_bui := sm_mk a_bui r_bui kp_bui, m_rea := sm_mk a_rea r_rea kp_rea, g_L := PySem.W.mg_of X G aL, clL := ⟨pg, hdL, po, saL⟩, mkL := ⟨mk, a_ini, fn_ini, kcL⟩, crL := ⟨rdL, gaL⟩, most := ⟨_, ⟨mo, ⟨_, rfl⟩⟩⟩, nL_size := nL_size, nL_lefts := nL_lefts, nL_rights := nL_rights, nL_flags := nL_flags, nfi := nfi, nfs := nfs, tcl := tcl, tsp := tsp, ttk := ttk, tmo := tmr, kLL := kLL, kiL := kiL, ksL := ksL, g_BO := PySem.W.mg_of X G g_BO, x_BO := e_BO.1, i_BO := e_BO.2.1, c_BO := e_BO.2.2.1, f_BO := e_BO.2.2.2, no_BO_operation := no_BO_operation, no_BO_index := no_BO_index, g_IL := PySem.W.mg_of X G g_IL, x_IL := e_IL.1, i_IL := e_IL.2.1, c_IL := e_IL.2.2.1, f_IL := e_IL.2.2.2, no_IL_operation := no_IL_operation, no_IL_index := no_IL_index, g_BS := PySem.W.mg_of X G g_BS, x_BS := e_BS.1, i_BS := e_BS.2.1, c_BS := e_BS.2.2.1, f_BS := e_BS.2.2.2, no_BS_size := no_BS_size, g_BN := PySem.W.mg_of X G g_BN, x_BN := e_BN.1, i_BN := e_BN.2.1, c_BN := e_BN.2.2.1, f_BN := e_BN.2.2.2, no_BN_node := no_BN_node, g_RE := PySem.W.mg_of X G g_RE, g_BG := PySem.W.mg_of X G g_BG, g_LO := PySem.W.mg_of X G g_LO, g_LI := PySem.W.mg_of X G g_LI, k_BN_BG := k_BN_BG, k_BN_BS := k_BN_BS, k_BN_LO := k_BN_LO, k_BN_LI := k_BN_LI, k_BN_VE := k_BN_VE, k_BS_LO := k_BS_LO, k_BS_LI := k_BS_LI, k_BS_VE := k_BS_VE, k_BO_IL := k_BO_IL, k_BO_RE := k_BO_RE, k_BO_LO := k_BO_LO, k_BO_LI := k_BO_LI, k_BO_VE := k_BO_VE, k_IL_BO := k_IL_BO, k_IL_RE := k_IL_RE, k_IL_LO := k_IL_LO, k_IL_LI := k_IL_LI, k_IL_VE := k_IL_VE, e_BN_BN := m_BN_BN, e_BS_BS := m_BS_BS, e_BO_BO := m_BO_BO, e_IL_BO := m_IL_BO, e_IL_IL := m_IL_IL, n_abs := PySem.W.mg_none_of X G n_abs, n_len := PySem.W.mg_none_of X G n_len, n_int := PySem.W.mg_none_of X G n_int, n_enumerate := PySem.W.mg_none_of X G n_enumerate, n_list := PySem.W.mg_none_of X G n_list, n_range := PySem.W.mg_none_of X G n_range, n_str := PySem.W.mg_none_of X G n_str, n_isinstance := PySem.W.mg_none_of X G n_isinstance, n_bool := PySem.W.mg_none_of X G n_bool, n_ValueError := PySem.W.mg_none_of X G n_ValueError, n_super := PySem.W.mg_none_of X G n_super, v_MOST_NODES := ⟨_, PySem.W.mg_of X G v_MOST_NODES⟩, v_MOST_DIGITS := ⟨_, PySem.W.mg_of X G v_MOST_DIGITS⟩, v_PARTS := ⟨_, PySem.W.mg_of X G v_PARTS⟩ }
  refine ⟨_, fun s v => .of_eq rfl, fun base _ _ => fn_law T F⟩
end
end LL
open PySem PySem.W PyProof.Rows
set_option maxRecDepth 100000 in
set_option maxHeartbeats 0 in
theorem PySem.Challenge.cw_latelink_k02_whole_one_operation_holds : PySem.Challenge.rw_latelink_k02_whole_one_operation.Holds := by
  w_on; o_law; k_head; (case hw => w_witness2)
  k_fill
  refine L2.walk_of (n := 63) (k := 7) (x := "_law_script") (CX := fun _ => L2.CX0) (sp := fun w => LL.spLaw (_)) rfl (by decide) rfl ⟨rfl, by decide, by decide⟩ (fun w h Y => PySem.W.kIn_of Y) ?zF (fun _ _ a ns _ _ hS => ⟨a, ns, rfl, hS, fun _ => rfl⟩) fun _ _ _ _ _ z => z
  case zF =>
    intro w mg fa h KX G hmg
    refine' LL.all_mk rfl KX G hmg ?zf_aL ?zf_tL ?zf_pg ?zf_hdL ?zf_po ?zf_saL ?zf_mk ?zf_kcL ?zf_rdL ?zf_gaL ?zf_mo ?zf_nL_size ?zf_nL_lefts ?zf_nL_rights ?zf_nL_flags ?zf_nfi ?zf_nfs ?zf_tcl ?zf_tsp ?zf_ttk ?zf_tmr ?zf_a_cs ?zf_d_cs ?zf_a_co ?zf_d_co ?zf_a_inu ?zf_d_inu ?zf_a_nums ?zf_d_nums ?zf_a_rr ?zf_d_rr ?zf_a_rl ?zf_d_rl ?zf_a_ro ?zf_d_ro ?zf_a_ini ?zf_fn_ini ?zf_d_ini ?zf_a_bui ?zf_r_bui ?zf_kp_bui ?zf_d_bui ?zf_a_rea ?zf_r_rea ?zf_kp_rea ?zf_d_rea ?zf_a_lef ?zf_fn_lef ?zf_kp_lef ?zf_d_lef ?zf_a_rig ?zf_fn_rig ?zf_kp_rig ?zf_d_rig ?zf_a_iso ?zf_fn_iso ?zf_kp_iso ?zf_d_iso ?zf_a_app ?zf_fn_app ?zf_kp_app ?zf_d_app ?zf_a_apa ?zf_fn_apa ?zf_kp_apa ?zf_d_apa ?zf_a_cop ?zf_fn_cop ?zf_kp_cop ?zf_d_cop ?zf_a_dum ?zf_fn_dum ?zf_kp_dum ?zf_d_dum ?zf_a_dpa ?zf_fn_dpa ?zf_kp_dpa ?zf_d_dpa ?zf_a_sst ?zf_fn_sst ?zf_d_sst ?zf_a_sle ?zf_fn_sle ?zf_d_sle ?zf_a_seq ?zf_fn_seq ?zf_d_seq ?zf_a_box ?zf_d_box ?zf_a_draw ?zf_d_draw ?zf_a_lis ?zf_d_lis ?zf_a_lsize ?zf_d_lsize ?zf_a_lfar ?zf_d_lfar ?zf_a_lwor ?zf_d_lwor ?zf_a_lben ?zf_d_lben ?zf_a_ldum ?zf_d_ldum ?zf_a_lwri ?zf_d_lwri ?zf_a_lsho ?zf_d_lsho ?zf_a_lnr ?zf_d_lnr ?zf_a_lnrs ?zf_d_lnrs ?zf_a_lwho ?zf_d_lwho ?zf_a_lequ ?zf_d_lequ ?zf_a_leqr ?zf_d_leqr ?zf_a_lnea ?zf_d_lnea ?zf_a_lope ?zf_d_lope ?zf_a_lref ?zf_d_lref ?zf_a_ltur ?zf_d_ltur ?zf_a_law ?zf_l_law ?zf_c_law ?zf_q_law ?zf_g_BO ?zf_e_BO ?zf_no_BO_operation ?zf_no_BO_index ?zf_g_IL ?zf_e_IL ?zf_no_IL_operation ?zf_no_IL_index ?zf_g_BS ?zf_e_BS ?zf_no_BS_size ?zf_g_BN ?zf_e_BN ?zf_no_BN_node ?zf_g_RE ?zf_g_BG ?zf_g_LO ?zf_g_LI ?zf_kLL ?zf_kiL ?zf_ksL ?zf_k_BN_BG ?zf_k_BN_BS ?zf_k_BN_LO ?zf_k_BN_LI ?zf_k_BN_VE ?zf_k_BS_LO ?zf_k_BS_LI ?zf_k_BS_VE ?zf_k_BO_IL ?zf_k_BO_RE ?zf_k_BO_LO ?zf_k_BO_LI ?zf_k_BO_VE ?zf_k_IL_BO ?zf_k_IL_RE ?zf_k_IL_LO ?zf_k_IL_LI ?zf_k_IL_VE ?zf_m_BN_BN ?zf_m_BS_BS ?zf_m_BO_BO ?zf_m_IL_BO ?zf_m_IL_IL ?zf_n_abs ?zf_n_len ?zf_n_int ?zf_n_enumerate ?zf_n_list ?zf_n_range ?zf_n_str ?zf_n_isinstance ?zf_n_bool ?zf_n_ValueError ?zf_n_super ?zf_v_MOST_NODES ?zf_v_MOST_DIGITS ?zf_v_PARTS
    (case zf_aL => k_is)
    (case zf_tL => k_is)
    (case zf_pg => k_is)
    (case zf_hdL => k_is)
    (case zf_po => k_is)
    (case zf_saL => k_is)
    (case zf_mk => k_is)
    (case zf_kcL => k_is)
    (case zf_rdL => k_is)
    (case zf_gaL => k_is)
    (case zf_mo => k_is)
    (case zf_nL_size => k_is)
    (case zf_nL_lefts => k_is)
    (case zf_nL_rights => k_is)
    (case zf_nL_flags => k_is)
    (case zf_nfi => k_is)
    (case zf_nfs => k_is)
    (case zf_tcl => k_is)
    (case zf_tsp => k_is)
    (case zf_ttk => k_is)
    (case zf_tmr => k_is)
    (case zf_a_cs => k_is)
    (case zf_d_cs => (refine' LL.dn_mk ?zdl ?zdc ?zdq ?zdb; (case zdl => k_is); (case zdc => k_is); (case zdq => k_is); (case zdb => exact fun us hl => match us, hl with | [_], _ => rfl)))
    (case zf_a_co => k_is)
    (case zf_d_co => (refine' LL.dn_mk ?zdl ?zdc ?zdq ?zdb; (case zdl => k_is); (case zdc => k_is); (case zdq => k_is); (case zdb => exact fun us hl => match us, hl with | [_, _, _], _ => rfl)))
    (case zf_a_inu => k_is)
    (case zf_d_inu => (refine' LL.dn_mk ?zdl ?zdc ?zdq ?zdb; (case zdl => k_is); (case zdc => k_is); (case zdq => k_is); (case zdb => exact fun us hl => match us, hl with | [_], _ => rfl)))
    (case zf_a_nums => k_is)
    (case zf_d_nums => (refine' LL.dn_mk ?zdl ?zdc ?zdq ?zdb; (case zdl => k_is); (case zdc => k_is); (case zdq => k_is); (case zdb => exact fun us hl => match us, hl with | [_], _ => rfl)))
    (case zf_a_rr => k_is)
    (case zf_d_rr => (refine' LL.dn_mk ?zdl ?zdc ?zdq ?zdb; (case zdl => k_is); (case zdc => k_is); (case zdq => k_is); (case zdb => exact fun us hl => match us, hl with | [_], _ => rfl)))
    (case zf_a_rl => k_is)
    (case zf_d_rl => (refine' LL.dn_mk ?zdl ?zdc ?zdq ?zdb; (case zdl => k_is); (case zdc => k_is); (case zdq => k_is); (case zdb => exact fun us hl => match us, hl with | [_, _], _ => rfl)))
    (case zf_a_ro => k_is)
    (case zf_d_ro => (refine' LL.dn_mk ?zdl ?zdc ?zdq ?zdb; (case zdl => k_is); (case zdc => k_is); (case zdq => k_is); (case zdb => exact fun us hl => match us, hl with | [_, _], _ => rfl)))
    (case zf_a_ini => k_is)
    (case zf_fn_ini => k_is)
    (case zf_d_ini => (refine' LL.dn_mk ?zdl ?zdc ?zdq ?zdb; (case zdl => k_is); (case zdc => k_is); (case zdq => k_is); (case zdb => exact fun us hl => match us, hl with | [_, _], _ => rfl)))
    (case zf_a_bui => k_is)
    (case zf_r_bui => k_is)
    (case zf_kp_bui => k_is)
    (case zf_d_bui => (refine' LL.dn_mk ?zdl ?zdc ?zdq ?zdb; (case zdl => k_is); (case zdc => k_is); (case zdq => k_is); (case zdb => exact fun us hl => match us, hl with | [_, _, _, _], _ => rfl)))
    (case zf_a_rea => k_is)
    (case zf_r_rea => k_is)
    (case zf_kp_rea => k_is)
    (case zf_d_rea => (refine' LL.dn_mk ?zdl ?zdc ?zdq ?zdb; (case zdl => k_is); (case zdc => k_is); (case zdq => k_is); (case zdb => exact fun us hl => match us, hl with | [_], _ => rfl)))
    (case zf_a_lef => k_is)
    (case zf_fn_lef => k_is)
    (case zf_kp_lef => k_is)
    (case zf_d_lef => (refine' LL.dn_mk ?zdl ?zdc ?zdq ?zdb; (case zdl => k_is); (case zdc => k_is); (case zdq => k_is); (case zdb => exact fun us hl => match us, hl with | [_, _], _ => rfl)))
    (case zf_a_rig => k_is)
    (case zf_fn_rig => k_is)
    (case zf_kp_rig => k_is)
    (case zf_d_rig => (refine' LL.dn_mk ?zdl ?zdc ?zdq ?zdb; (case zdl => k_is); (case zdc => k_is); (case zdq => k_is); (case zdb => exact fun us hl => match us, hl with | [_, _], _ => rfl)))
    (case zf_a_iso => k_is)
    (case zf_fn_iso => k_is)
    (case zf_kp_iso => k_is)
    (case zf_d_iso => (refine' LL.dn_mk ?zdl ?zdc ?zdq ?zdb; (case zdl => k_is); (case zdc => k_is); (case zdq => k_is); (case zdb => exact fun us hl => match us, hl with | [_, _], _ => rfl)))
    (case zf_a_app => k_is)
    (case zf_fn_app => k_is)
    (case zf_kp_app => k_is)
    (case zf_d_app => (refine' LL.dn_mk ?zdl ?zdc ?zdq ?zdb; (case zdl => k_is); (case zdc => k_is); (case zdq => k_is); (case zdb => exact fun us hl => match us, hl with | [_, _], _ => rfl)))
    (case zf_a_apa => k_is)
    (case zf_fn_apa => k_is)
    (case zf_kp_apa => k_is)
    (case zf_d_apa => (refine' LL.dn_mk ?zdl ?zdc ?zdq ?zdb; (case zdl => k_is); (case zdc => k_is); (case zdq => k_is); (case zdb => exact fun us hl => match us, hl with | [_, _, _], _ => rfl)))
    (case zf_a_cop => k_is)
    (case zf_fn_cop => k_is)
    (case zf_kp_cop => k_is)
    (case zf_d_cop => (refine' LL.dn_mk ?zdl ?zdc ?zdq ?zdb; (case zdl => k_is); (case zdc => k_is); (case zdq => k_is); (case zdb => exact fun us hl => match us, hl with | [_], _ => rfl)))
    (case zf_a_dum => k_is)
    (case zf_fn_dum => k_is)
    (case zf_kp_dum => k_is)
    (case zf_d_dum => (refine' LL.dn_mk ?zdl ?zdc ?zdq ?zdb; (case zdl => k_is); (case zdc => k_is); (case zdq => k_is); (case zdb => exact fun us hl => match us, hl with | [_], _ => rfl)))
    (case zf_a_dpa => k_is)
    (case zf_fn_dpa => k_is)
    (case zf_kp_dpa => k_is)
    (case zf_d_dpa => (refine' LL.dn_mk ?zdl ?zdc ?zdq ?zdb; (case zdl => k_is); (case zdc => k_is); (case zdq => k_is); (case zdb => exact fun us hl => match us, hl with | [_], _ => rfl)))
    (case zf_a_sst => k_is)
    (case zf_fn_sst => k_is)
    (case zf_d_sst => (refine' LL.dn_mk ?zdl ?zdc ?zdq ?zdb; (case zdl => k_is); (case zdc => k_is); (case zdq => k_is); (case zdb => exact fun us hl => match us, hl with | [_], _ => rfl)))
    (case zf_a_sle => k_is)
    (case zf_fn_sle => k_is)
    (case zf_d_sle => (refine' LL.dn_mk ?zdl ?zdc ?zdq ?zdb; (case zdl => k_is); (case zdc => k_is); (case zdq => k_is); (case zdb => exact fun us hl => match us, hl with | [_], _ => rfl)))
    (case zf_a_seq => k_is)
    (case zf_fn_seq => k_is)
    (case zf_d_seq => (refine' LL.dn_mk ?zdl ?zdc ?zdq ?zdb; (case zdl => k_is); (case zdc => k_is); (case zdq => k_is); (case zdb => exact fun us hl => match us, hl with | [_, _], _ => rfl)))
    (case zf_a_box => k_is)
    (case zf_d_box => (refine' LL.dn_mk ?zdl ?zdc ?zdq ?zdb; (case zdl => k_is); (case zdc => k_is); (case zdq => k_is); (case zdb => exact fun us hl => match us, hl with | [_], _ => rfl)))
    (case zf_a_draw => k_is)
    (case zf_d_draw => (refine' LL.dn_mk ?zdl ?zdc ?zdq ?zdb; (case zdl => k_is); (case zdc => k_is); (case zdq => k_is); (case zdb => exact fun us hl => match us, hl with | [_, _], _ => rfl)))
    (case zf_a_lis => k_is)
    (case zf_d_lis => (refine' LL.dn_mk ?zdl ?zdc ?zdq ?zdb; (case zdl => k_is); (case zdc => k_is); (case zdq => k_is); (case zdb => exact fun us hl => match us, hl with | [_, _], _ => rfl)))
    (case zf_a_lsize => k_is)
    (case zf_d_lsize => (refine' LL.dn_mk ?zdl ?zdc ?zdq ?zdb; (case zdl => k_is); (case zdc => k_is); (case zdq => k_is); (case zdb => exact fun us hl => match us, hl with | [_], _ => rfl)))
    (case zf_a_lfar => k_is)
    (case zf_d_lfar => (refine' LL.dn_mk ?zdl ?zdc ?zdq ?zdb; (case zdl => k_is); (case zdc => k_is); (case zdq => k_is); (case zdb => exact fun us hl => match us, hl with | [_], _ => rfl)))
    (case zf_a_lwor => k_is)
    (case zf_d_lwor => (refine' LL.dn_mk ?zdl ?zdc ?zdq ?zdb; (case zdl => k_is); (case zdc => k_is); (case zdq => k_is); (case zdb => exact fun us hl => match us, hl with | [_, _], _ => rfl)))
    (case zf_a_lben => k_is)
    (case zf_d_lben => (refine' LL.dn_mk ?zdl ?zdc ?zdq ?zdb; (case zdl => k_is); (case zdc => k_is); (case zdq => k_is); (case zdb => exact fun us hl => match us, hl with | [_, _, _, _], _ => rfl)))
    (case zf_a_ldum => k_is)
    (case zf_d_ldum => (refine' LL.dn_mk ?zdl ?zdc ?zdq ?zdb; (case zdl => k_is); (case zdc => k_is); (case zdq => k_is); (case zdb => exact fun us hl => match us, hl with | [_, _, _, _], _ => rfl)))
    (case zf_a_lwri => k_is)
    (case zf_d_lwri => (refine' LL.dn_mk ?zdl ?zdc ?zdq ?zdb; (case zdl => k_is); (case zdc => k_is); (case zdq => k_is); (case zdb => exact fun us hl => match us, hl with | [_, _, _, _], _ => rfl)))
    (case zf_a_lsho => k_is)
    (case zf_d_lsho => (refine' LL.dn_mk ?zdl ?zdc ?zdq ?zdb; (case zdl => k_is); (case zdc => k_is); (case zdq => k_is); (case zdb => exact fun us hl => match us, hl with | [_, _, _, _, _], _ => rfl)))
    (case zf_a_lnr => k_is)
    (case zf_d_lnr => (refine' LL.dn_mk ?zdl ?zdc ?zdq ?zdb; (case zdl => k_is); (case zdc => k_is); (case zdq => k_is); (case zdb => exact fun us hl => match us, hl with | [_, _, _], _ => rfl)))
    (case zf_a_lnrs => k_is)
    (case zf_d_lnrs => (refine' LL.dn_mk ?zdl ?zdc ?zdq ?zdb; (case zdl => k_is); (case zdc => k_is); (case zdq => k_is); (case zdb => exact fun us hl => match us, hl with | [_, _, _], _ => rfl)))
    (case zf_a_lwho => k_is)
    (case zf_d_lwho => (refine' LL.dn_mk ?zdl ?zdc ?zdq ?zdb; (case zdl => k_is); (case zdc => k_is); (case zdq => k_is); (case zdb => exact fun us hl => match us, hl with | [_, _], _ => rfl)))
    (case zf_a_lequ => k_is)
    (case zf_d_lequ => (refine' LL.dn_mk ?zdl ?zdc ?zdq ?zdb; (case zdl => k_is); (case zdc => k_is); (case zdq => k_is); (case zdb => exact fun us hl => match us, hl with | [_, _, _], _ => rfl)))
    (case zf_a_leqr => k_is)
    (case zf_d_leqr => (refine' LL.dn_mk ?zdl ?zdc ?zdq ?zdb; (case zdl => k_is); (case zdc => k_is); (case zdq => k_is); (case zdb => exact fun us hl => match us, hl with | [_, _, _, _], _ => rfl)))
    (case zf_a_lnea => k_is)
    (case zf_d_lnea => (refine' LL.dn_mk ?zdl ?zdc ?zdq ?zdb; (case zdl => k_is); (case zdc => k_is); (case zdq => k_is); (case zdb => exact fun us hl => match us, hl with | [_, _, _], _ => rfl)))
    (case zf_a_lope => k_is)
    (case zf_d_lope => (refine' LL.dn_mk ?zdl ?zdc ?zdq ?zdb; (case zdl => k_is); (case zdc => k_is); (case zdq => k_is); (case zdb => exact fun us hl => match us, hl with | [_, _, _], _ => rfl)))
    (case zf_a_lref => k_is)
    (case zf_d_lref => (refine' LL.dn_mk ?zdl ?zdc ?zdq ?zdb; (case zdl => k_is); (case zdc => k_is); (case zdq => k_is); (case zdb => exact fun us hl => match us, hl with | [_, _, _], _ => rfl)))
    (case zf_a_ltur => k_is)
    (case zf_d_ltur => (refine' LL.dn_mk ?zdl ?zdc ?zdq ?zdb; (case zdl => k_is); (case zdc => k_is); (case zdq => k_is); (case zdb => exact fun us hl => match us, hl with | [_, _, _, _, _, _], _ => rfl)))
    (case zf_a_law => k_is)
    (case zf_l_law => k_is)
    (case zf_c_law => k_is)
    (case zf_q_law => k_is)
    (case zf_g_BO => k_is)
    (case zf_e_BO => (refine' LL.exx_mk ?zx1 ?zx2 ?zx3 ?zx4 ?zx5 ?zx6 ?zx7 ?zx8 ?zx9 ?zx10 ?zx11 ?zx12 ?zx13 ?zx14 ?zx15 ?zx16 ?zx17 ?zx18 ?zx19 ?zx20 ?zy1 ?zy2 ?zy3 ?zy4; (case zx1 => k_is); (case zx2 => k_is); (case zx3 => k_is); (case zx4 => k_is); (case zx5 => k_is); (case zx6 => k_is); (case zx7 => k_is); (case zx8 => k_is); (case zx9 => k_is); (case zx10 => k_is); (case zx11 => k_is); (case zx12 => k_is); (case zx13 => k_is); (case zx14 => k_is); (case zx15 => k_is); (case zx16 => k_is); (case zx17 => k_is); (case zx18 => k_is); (case zx19 => k_is); (case zx20 => k_is); (case zy1 => decide +kernel); (case zy2 => kernel_rfl); (case zy3 => rfl); (case zy4 => decide +kernel)))
    (case zf_no_BO_operation => k_is)
    (case zf_no_BO_index => k_is)
    (case zf_g_IL => k_is)
    (case zf_e_IL => (refine' LL.exx_mk ?zx1 ?zx2 ?zx3 ?zx4 ?zx5 ?zx6 ?zx7 ?zx8 ?zx9 ?zx10 ?zx11 ?zx12 ?zx13 ?zx14 ?zx15 ?zx16 ?zx17 ?zx18 ?zx19 ?zx20 ?zy1 ?zy2 ?zy3 ?zy4; (case zx1 => k_is); (case zx2 => k_is); (case zx3 => k_is); (case zx4 => k_is); (case zx5 => k_is); (case zx6 => k_is); (case zx7 => k_is); (case zx8 => k_is); (case zx9 => k_is); (case zx10 => k_is); (case zx11 => k_is); (case zx12 => k_is); (case zx13 => k_is); (case zx14 => k_is); (case zx15 => k_is); (case zx16 => k_is); (case zx17 => k_is); (case zx18 => k_is); (case zx19 => k_is); (case zx20 => k_is); (case zy1 => decide +kernel); (case zy2 => kernel_rfl); (case zy3 => rfl); (case zy4 => decide +kernel)))
    (case zf_no_IL_operation => k_is)
    (case zf_no_IL_index => k_is)
    (case zf_g_BS => k_is)
    (case zf_e_BS => (refine' LL.exx_mk ?zx1 ?zx2 ?zx3 ?zx4 ?zx5 ?zx6 ?zx7 ?zx8 ?zx9 ?zx10 ?zx11 ?zx12 ?zx13 ?zx14 ?zx15 ?zx16 ?zx17 ?zx18 ?zx19 ?zx20 ?zy1 ?zy2 ?zy3 ?zy4; (case zx1 => k_is); (case zx2 => k_is); (case zx3 => k_is); (case zx4 => k_is); (case zx5 => k_is); (case zx6 => k_is); (case zx7 => k_is); (case zx8 => k_is); (case zx9 => k_is); (case zx10 => k_is); (case zx11 => k_is); (case zx12 => k_is); (case zx13 => k_is); (case zx14 => k_is); (case zx15 => k_is); (case zx16 => k_is); (case zx17 => k_is); (case zx18 => k_is); (case zx19 => k_is); (case zx20 => k_is); (case zy1 => decide +kernel); (case zy2 => kernel_rfl); (case zy3 => rfl); (case zy4 => decide +kernel)))
    (case zf_no_BS_size => k_is)
    (case zf_g_BN => k_is)
    (case zf_e_BN => (refine' LL.exx_mk ?zx1 ?zx2 ?zx3 ?zx4 ?zx5 ?zx6 ?zx7 ?zx8 ?zx9 ?zx10 ?zx11 ?zx12 ?zx13 ?zx14 ?zx15 ?zx16 ?zx17 ?zx18 ?zx19 ?zx20 ?zy1 ?zy2 ?zy3 ?zy4; (case zx1 => k_is); (case zx2 => k_is); (case zx3 => k_is); (case zx4 => k_is); (case zx5 => k_is); (case zx6 => k_is); (case zx7 => k_is); (case zx8 => k_is); (case zx9 => k_is); (case zx10 => k_is); (case zx11 => k_is); (case zx12 => k_is); (case zx13 => k_is); (case zx14 => k_is); (case zx15 => k_is); (case zx16 => k_is); (case zx17 => k_is); (case zx18 => k_is); (case zx19 => k_is); (case zx20 => k_is); (case zy1 => decide +kernel); (case zy2 => kernel_rfl); (case zy3 => rfl); (case zy4 => decide +kernel)))
    (case zf_no_BN_node => k_is)
    (case zf_g_RE => k_is)
    (case zf_g_BG => k_is)
    (case zf_g_LO => k_is)
    (case zf_g_LI => k_is)
    (case zf_kLL => kernel_rfl)
    (case zf_kiL => kernel_rfl)
    (case zf_ksL => kernel_rfl)
    (case zf_k_BN_BG => kernel_rfl)
    (case zf_k_BN_BS => kernel_rfl)
    (case zf_k_BN_LO => kernel_rfl)
    (case zf_k_BN_LI => kernel_rfl)
    (case zf_k_BN_VE => kernel_rfl)
    (case zf_k_BS_LO => kernel_rfl)
    (case zf_k_BS_LI => kernel_rfl)
    (case zf_k_BS_VE => kernel_rfl)
    (case zf_k_BO_IL => kernel_rfl)
    (case zf_k_BO_RE => kernel_rfl)
    (case zf_k_BO_LO => kernel_rfl)
    (case zf_k_BO_LI => kernel_rfl)
    (case zf_k_BO_VE => kernel_rfl)
    (case zf_k_IL_BO => kernel_rfl)
    (case zf_k_IL_RE => kernel_rfl)
    (case zf_k_IL_LO => kernel_rfl)
    (case zf_k_IL_LI => kernel_rfl)
    (case zf_k_IL_VE => kernel_rfl)
    (case zf_m_BN_BN => kernel_rfl)
    (case zf_m_BS_BS => kernel_rfl)
    (case zf_m_BO_BO => kernel_rfl)
    (case zf_m_IL_BO => kernel_rfl)
    (case zf_m_IL_IL => kernel_rfl)
    (case zf_n_abs => k_is)
    (case zf_n_len => k_is)
    (case zf_n_int => k_is)
    (case zf_n_enumerate => k_is)
    (case zf_n_list => k_is)
    (case zf_n_range => k_is)
    (case zf_n_str => k_is)
    (case zf_n_isinstance => k_is)
    (case zf_n_bool => k_is)
    (case zf_n_ValueError => k_is)
    (case zf_n_super => k_is)
    (case zf_v_MOST_NODES => k_is)
    (case zf_v_MOST_DIGITS => k_is)
    (case zf_v_PARTS => k_is)
