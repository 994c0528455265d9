import PyProof.Rows.All
import Wide.All
import OpenK.AllK
import Wide.FinOn
import KE.KExcSuper
import KE.KFromBytes
import HandS.Base
import HandS.Call
import HandS.List
import HandS.Ends
import HandS.Words
import HandS.WordsExc
import HandS.Exc
import HandS.ExcInit
import HandS.ExcField
import HandS.ExcIs
import HandS.IsInst
import KE.KExcIs
import HandS.HeadHook1
import HandS.HeadHook2
import HandS.HeadHook3
import HandS.HeadHook4
import HandS.HeadWalk
import HandS.Lambda
import HandS.Nested
import HandS.HotCalls
import HandS.ExcInitHot
import HandS.Dict
import HandS.More
import HandS.Evl
import HandS.Defaults
import HandS.Wide
import KE.KEqDeep
import KE.DataEq
import HandS.ForMost
import KE.KStateDown
import HandS.Head0
import HandS.Head1
import HandS.Head2
import HandS.HeadEnd
import PySem.Challenge.RW_bunting_k00_errors_made_from_their_field
set_option Elab.async false
set_option linter.all false
set_option maxRecDepth 100000
set_option maxHeartbeats 2000000
/-! BExc: an own exception class below an own class below ValueError, whose __init__ says super().__init__(text) and stores one field. -/
namespace BX
open PySem PySem.Spec PyProof.Rows L2 NdefX

/-- __init__'s two statements -/
abbrev exSup (msg : Str) (j : Nat) (p0 p1 p2 p3 p4 p5 : Pos) : Stmt :=
  .Expr (.Call (.Attribute (.Call (.Name "super" p0) [] [] p1) "__init__" p2) [.Constant (.str msg) j p3] [] p4) p5
abbrev exSto (fld v : Str) (q1 q2 q3 q4 : Pos) : Stmt := .Assign [.Attribute (.Name "self" q1) fld q2] (.Name v q3) q4

/-- what the written part says of the class at C: its __init__ at fI, the cell of __class__ at cc, the code object at cda -/
structure ExT (K : PySem.W.Frag) (C fI cc cda : Addr) (qual : Str) (params : Arguments) (body : List Stmt) (scope : Scope) (file : Str) : Prop where
  oex : OexC K C
  iC : PySem.W.findIn K (.ref C) "__init__" = some (some (.ref fI))
  tI : PySem.W.typeIn K (.ref fI) = some (.type "function")
  fn : ∃ (oc : Value) (od : Option Addr) (kV doc pm ct : Value) (an : Option Addr) (osl : Array (Option Value)), K.lookup fI = some ⟨oc, od, .func (PySem.W.fnX "__init__" qual params body scope [("__class__", cc)] .none kV doc pm an (.ref cda) ct), osl⟩
  cd : PySem.W.codeIn K (.ref cda) qual = true
  cell : ∃ (cl : Value) (cld : Option Addr) (csl : Array (Option Value)), K.lookup cc = some ⟨cl, cld, .cell (some (.ref C)), csl⟩
  sup : PySem.W.ks_superIn K C C "__init__" = some (some (.builtin "ValueError.__init__"))
  sVE : PySem.W.subIn K (.ref C) (.type "ValueError") = some true
  code : ∃ (ccl : Value) (cdd : Option Addr) (vs : Array Value) (ccs : Array (Option Value)) (tf : Tok), K.lookup cda = some ⟨ccl, cdd, .fields vs, ccs⟩ ∧ vs[2]? = some (.str file tf)
  ns : PySem.W.nsIn K mainGlobals "super" = some none
  stat : PySem.W.nsIn K PySem.cStatics "thirdparty.any" = some none


section
open PySem.W PySem.Calls
variable {prog : Program} {w : World} {A : Around} {E : Value → Shared → Prop} {h : Heap} {g : Array GenState} {d : Drawn} {t : Nat} {os : OsState} {B i newId : String} {bmB : List Value}
variable {nm q : Str} {C N : Addr} {bs bm : List Value} {hdct : Bool} {sn : List Str} {sub : List Value} {ab : Bool} {col : Option Bool} {dd : Option Addr} {k0 k1 k2 k3 k5 : Option Value}
theorem call_mw {u e t0 : Addr} {rest : List Value} {Q : Value → Shared → Prop} (FB : ExcBaseFacts B newId i bmB) (hC : h.get? C = some (excClassObj nm q C N bs bm hdct sn sub ab col dd k0 k1 k2 k3 k5 newId))
    (he : h.get? e = some ({ cls := .ref C, dict := none, data := .fields #[.ref t0, .none, .none, .none, .bool false, .none] } : Obj)) (hu : h.get? u = some (kxs_mw i e)) (hz : rest.length ≤ sizeLine)
    (hq : ∀ h' t1, (∀ b o, b ≠ e → h.get? b = some o → h'.get? b = some o) → h'.get? e = some ({ cls := .ref C, dict := none, data := .fields #[.ref t1, .none, .none, .none, .bool false, .none] } : Obj) → Q .none ⟨h', g, d, t, os⟩) :
    wpAny (model prog w) A (call (.ref u) rest) Q E ⟨h, g, d, t, os⟩ := by
  refine wpAny_call (codeAny_of_tree ?_)
  show wpAny _ A.in1 (callAny (.ref u) ⟨rest, []⟩) _ _ _
  simp only [callAny]
  refine wpAny_bind (wpAny_load hu ?_)
  simp only [kxs_mw, show (Value.type "method-wrapper" == Value.type "method" || Value.type "method-wrapper" == Value.type "builtin_function_or_method" || Value.type "method-wrapper" == Value.type "method-wrapper") = true by decide, if_true]
  refine KFB.if_so (by decide) ?_
  refine wpAny_bind (check_bound_init FB.toExcCallFacts hC he rfl ?_)
  refine wpAny_bind (wpAny_pure (wpAny_pure ?_))
  refine ⟨plainId_quiet FB.init.plain _, codeAny_builtin FB.initEntry ?_⟩
  exact exc_init_tree (cls := .ref C) (t0 := t0) (dv := none) (c2 := .none) (c3 := .none) (b4 := .bool false) he hz fun h' k e' _ => hq h' _ k e'
end

section
variable {X : Cx} {pins : List (Addr × Obj)} {σ : L2.St} {H : Hp} {s : Shared} {C fI cc cda a : Addr} {qual file : Str} {params : Arguments} {body : List Stmt} {scope : Scope}

/-- super().__init__(text): the exception's args are laid anew -/
theorem sup_init (T : ExT X.K C fI cc cda qual params body scope file) (I : Inv X pins σ H s) (hσ : σ[0]? = some (some (.ref a))) (ha : H a = some (exo a C none)) (hN : X.N[0]? = some ("self" : Str))
    (he : X.env = PySem.W.ksEnv qual scope X.env.locals fI (.ref cda) cc) (har : (params.posonlyargs ++ params.args).head?.map (·.arg) = some "self")
    (hks : scope.names.lookup ("super" : Str) = some .globalImplicit) (hkc : scope.names.lookup ("__class__" : Str) = some .free) (hka : scope.names.lookup ("self" : Str) = some .local)
    (hfile : ((X.prog.main.file : Str) == file) = true) (htop : (X.prog.main.scope.names.lookup ("super" : Str)).isSome = false)
    {msg : Str} {j : Nat} {p0 p1 p2 p3 p4 p5 : Pos} {bd : List Stmt} {pl : Sem Bool} {Q : Flow → Shared → Prop}
    (hev : eval (.Call (.Attribute (.Call (.Name "super" p0) [] [] p1) "__init__" p2) [.Constant (.str msg) j p3] [] p4) X.env = (do
      let ov ← attributeBase (.Call (.Name "super" p0) [] [] p1) "__init__" X.env (eval (.Call (.Name "super" p0) [] [] p1) X.env)
      standAt p2.atName
      let (f, first) ← holding [ov] (getMethod ov "__init__" pl)
      callWith p4 f first (backTo p4 (starEach [.Constant (.str msg) j p3] X.env)) []))
    (hia : interactive X.env = false) (hsw : swapsWith (.Call (.Attribute (.Call (.Name "super" p0) [] [] p1) "__init__" p2) [.Constant (.str msg) j p3] [] p4) none p5.line X.env = pure false) (h : ∀ s', Inv X pins σ H s' → Q .next s') :
    _root_.PySem.wpAt (model X.prog X.w) X.A (.func bd X.env) (exec (exSup msg j p0 p1 p2 p3 p4 p5) X.env) Q X.xe s := by
  obtain ⟨oc, od, kV, doc, pm, ct, an, osl, lk⟩ := T.fn
  obtain ⟨cl, cld, csl, lcell⟩ := T.cell
  obtain ⟨ccl, cdd, vs, ccs, tf, lcode, hvs⟩ := T.code
  obtain ⟨nm, q, N, bs, bm, sn, sub, ab, col, dd, k0, k1, k2, k3, k5, hC, hbm⟩ := T.oex.cls
  have hcl : PySem.W.clsIn X.K C = some { name := nm, bases := bs, mro := .ref C :: bm, ns := N, qualname := q, hasDict := true, slotNames := sn, subclasses := sub, abstract := ab, collection := col, hasDel := false } := by unfold PySem.W.clsIn; rw [hC] <;> rfl
  obtain ⟨ar, har1, har2⟩ := Option.map_eq_some_iff.mp har
  have hfree : X.env.kindOf "__class__" = some .free := by rw [he]; exact hkc
  have hsup : X.env.kindOf "super" = some .globalImplicit := by rw [he]; exact hks
  have hself : X.env.kindOf "self" = some .local := by rw [he]; exact hka
  have hcells : X.env.cells.lookup ("__class__" : Str) = some cc := by rw [he]; rfl
  have hal : PySem.W.alongIn X.K "__init__" (((Value.ref C :: bm).dropWhile (· != .ref C)).drop 1) = some (some (.builtin "ValueError.__init__")) := by
    have z := T.sup
    unfold PySem.W.ks_superIn at z
    rw [hcl] at z
    exact z
  refine PySem.ks_wpAt_Expr_any ?_ hia hsw
  refine PySem.ks_wpAt_MethodCall ?_ hev
  refine PySem.ks_wpAt_super_base (env := X.env) hsup hfree (by decide) (by rw [he]) (I.kIn _ _ lk) rfl har1 (by rw [he]) (I.kIn _ _ lcode) rfl hvs hfile htop ?_
  have hld : ∀ {Q : Value → Shared → Prop}, Q (.type "super") s → wpAny (model X.prog X.w) X.A (loadName X.env "super") Q X.xe s := fun {Q} hq => by
    obtain ⟨mb, h1, h2⟩ := I.mod.blt
    exact PySem.W.ks_loadName_global I.ok.kind hsup (Calls.loadGlobal_builtin (by rw [I.ok.glob]; exact I.mod.glob.keeps I.bk) (PySem.W.mg_none_of I.ok.mod.kin I.mod.glob T.ns) (by rw [I.ok.blt]; exact h1.keeps I.bk) ((h2 _ (by decide +kernel)).trans (by decide +kernel : bootBuiltins "super" = some (.type "super"))) hq)
  refine hld ⟨rfl, ?_⟩
  refine wpAny_loadName_free I.ok.kind hfree hcells ⟨_, I.kIn _ _ lcell, rfl⟩ ?_
  obtain ⟨m, hn, hl⟩ := I.loc
  obtain ⟨u, ru, hlook⟩ := hl 0 "self" _ hN hσ (by rw [he]; exact Or.inl hka)
  obtain rfl : u = Value.ref a := ru
  have hm : m "self" = some (.ref a) := by
    rcases hlook with ⟨_, hm⟩ | ⟨hk, _⟩
    · exact hm
    · rcases hk with hk | hk
      · rw [hself] at hk; cases hk
      · rw [hself] at hk; cases hk
  rw [har2]
  refine wpAny_loadName_local I.ok.kind hself hn hm ?_
  obtain ⟨oD, hD1, hD2⟩ : ∃ oD, s.heap.get? C = some oD ∧ ∃ cd, oD.data = .cls cd := ⟨_, I.kIn _ _ hC, _, rfl⟩
  obtain ⟨cdD, hD2⟩ := hD2
  obtain ⟨t1, ho⟩ := exo_at I.hok ha
  have hsubC : PySem.W.mroIn X.K C (.ref C) = some true := by
    unfold PySem.W.mroIn
    rw [hcl]
    show (if (Value.ref C :: bm).isEmpty then none else some ((Value.ref C :: bm).contains (.ref C))) = some true
    simp
  have hno : PySem.W.Looks (model X.prog X.w) s.heap (opaqueClassAbove (.ref C)) none := PySem.W.looks_opaque I.kIn T.stat
  have hinst : PySem.W.InstAt s.heap a ({ cls := .ref C, dict := none, data := .fields #[.ref t1, .none, .none, .none, .bool false, .none] } : Obj) C none := ⟨ho, rfl, rfl, trivial⟩
  have hxC : a ≠ C := PySem.W.ks_ne I.kIn hinst hcl
  have hI : PySem.W.Looks (model X.prog X.w) s.heap (isInstance (.ref a) (.type "ValueError")) true := hinst.type.andThen (PySem.W.looks_subIn I.kIn T.sVE)
  have hmro : PySem.W.Looks (model X.prog X.w) s.heap (mroOf (.ref C)) (.ref C :: bm) := fun A Q E s k q => wpAny_bind ((PySem.W.looks_clsIn I.kIn hcl) A _ E s k (wpAny_pure q))
  have hCs := I.kIn _ _ hC
  obtain ⟨hp, g, d, t, os⟩ := s
  refine PySem.ks_wpAny_isType_cls hD1 hD2 ⟨rfl, ?_⟩
  refine PySem.ks_wpAny_call_super hD1 hD2 ho rfl (fun c e => by cases e) (PySem.W.looks_mroIn I.kIn hsubC) (fun h2 e2 k2 => ?_)
  have I2 : Inv X pins σ H ⟨h2, g, d, t, os⟩ := I.kept (t' := t) k2
  refine PySem.W.kxs_getMethod PySem.W.kxs_ValueError e2 (hno.keeps k2) (hmro.keeps k2) rfl I2.kIn hal (hI.keeps k2) hxC (by decide) ?_
  have I3 : Inv X pins σ H ⟨h2.push (PySem.W.kxs_mw "ValueError.__init__" a), g, d, t + 1, os⟩ := I2.kept (t' := t + 1) fun b o e => Heap.get?_push_of_some _ e
  have hu3 : (h2.push (PySem.W.kxs_mw "ValueError.__init__" a)).get? h2.objs.size = some (PySem.W.kxs_mw "ValueError.__init__" a) := Heap.get?_push_at rfl rfl
  show wpAny _ _ (callWith p4 (.ref h2.objs.size) [] (backTo p4 (starEach [.Constant (.str msg) j p3] X.env)) []) _ _ _
  refine PySem.W.kxs_callWith (i := "ValueError.__init__") (x := a) rfl ?_
  refine Calls.evalArgs_plain ?_
  show wpAny _ _ (spliced [(false, eval (.Constant (.str msg) j p3) X.env)]) _ _ _
  refine Calls.spliced_cons (Calls.Constant_str (Calls.spliced_nil ?_))
  refine ⟨hu3, ?_⟩
  have ht : ∃ t1 : Addr, (h2.push (PySem.W.kxs_mw "ValueError.__init__" a)).get? a = some ({ cls := .ref C, dict := none, data := .fields #[.ref t1, .none, .none, .none, .bool false, .none] } : Obj) := exo_at I3.hok ha
  obtain ⟨t2, ho3⟩ := ht
  refine call_mw F.excBase_ValueError (I3.kIn _ _ hC) ho3 hu3 (by show 1 ≤ sizeLine; decide) (fun h' t3 k' e' => ?_)
  refine h _ ?_
  have J := I3.write (t' := t + 1 + 1) (x := a) (e := a) (o := exo a C none) (by rw [ha]; exact True.intro) (.inl rfl) k' ⟨_, e'⟩ (exo_ok e')
  have eu : upd H a (exo a C none) = H := by
    funext b
    by_cases hb : b = a
    · rw [hb, upd_same, ha]
    · rw [upd_ne hb]
  rw [eu] at J
  exact J

/-- a body of super().__init__(text) alone -/
theorem init_run0 (T : ExT X.K C fI cc cda qual params body scope file) (I : Inv X pins σ H s) (hσ : σ[0]? = some (some (.ref a))) (ha : H a = some (exo a C none)) (hN : X.N[0]? = some ("self" : Str))
    (he : X.env = PySem.W.ksEnv qual scope X.env.locals fI (.ref cda) cc) (har : (params.posonlyargs ++ params.args).head?.map (·.arg) = some "self")
    (hks : scope.names.lookup ("super" : Str) = some .globalImplicit) (hkc : scope.names.lookup ("__class__" : Str) = some .free) (hka : scope.names.lookup ("self" : Str) = some .local)
    (hfile : ((X.prog.main.file : Str) == file) = true) (htop : (X.prog.main.scope.names.lookup ("super" : Str)).isSome = false)
    {msg : Str} {j : Nat} {p0 p1 p2 p3 p4 p5 : Pos} {bd : List Stmt} {pl : Sem Bool} {Q : Flow → Shared → Prop}
    (hev : eval (.Call (.Attribute (.Call (.Name "super" p0) [] [] p1) "__init__" p2) [.Constant (.str msg) j p3] [] p4) X.env = (do
      let ov ← attributeBase (.Call (.Name "super" p0) [] [] p1) "__init__" X.env (eval (.Call (.Name "super" p0) [] [] p1) X.env)
      standAt p2.atName
      let (f, first) ← holding [ov] (getMethod ov "__init__" pl)
      callWith p4 f first (backTo p4 (starEach [.Constant (.str msg) j p3] X.env)) []))
    (hia : interactive X.env = false) (hsw : swapsWith (.Call (.Attribute (.Call (.Name "super" p0) [] [] p1) "__init__" p2) [.Constant (.str msg) j p3] [] p4) none p5.line X.env = pure false)
    (h : ∀ s', Inv X pins σ H s' → Q .next s') :
    _root_.PySem.wpAt (model X.prog X.w) X.A (.func bd X.env) (execs [exSup msg j p0 p1 p2 p3 p4 p5] X.env) Q X.xe s :=
  PySem.ks_wpAt_execs_cons (sup_init T I hσ ha hN he har hks hkc hka hfile htop hev hia hsw fun s' I' => _root_.PySem.wpAt_of_wpAny (wpAny_execs_nil (h s' I')))

/-- the whole body: super().__init__(text); self.fld = v -/
theorem init_run (T : ExT X.K C fI cc cda qual params body scope file) (I : Inv X pins σ H s) {y : V} {v fld : Str} (hσ : σ[0]? = some (some (.ref a))) (hσ1 : σ[1]? = some (some y)) (ha : H a = some (exo a C none)) (hN : X.N[0]? = some ("self" : Str)) (hN1 : X.N[1]? = some v)
    (he : X.env = PySem.W.ksEnv qual scope X.env.locals fI (.ref cda) cc) (har : (params.posonlyargs ++ params.args).head?.map (·.arg) = some "self")
    (hks : scope.names.lookup ("super" : Str) = some .globalImplicit) (hkc : scope.names.lookup ("__class__" : Str) = some .free) (hka : scope.names.lookup ("self" : Str) = some .local) (hkv : scope.names.lookup v = some .local)
    (hv1 : (v == ("__debug__" : Str)) = false) (hv2 : (v == ("__classdict__" : Str)) = false) (hno : PySem.W.findIn X.K (.ref C) fld = some none)
    (hfile : ((X.prog.main.file : Str) == file) = true) (htop : (X.prog.main.scope.names.lookup ("super" : Str)).isSome = false)
    {msg : Str} {j : Nat} {p0 p1 p2 p3 p4 p5 q1 q2 q3 q4 : Pos} {bd : List Stmt} {pl : Sem Bool} {Q : Flow → Shared → Prop}
    (hev : eval (.Call (.Attribute (.Call (.Name "super" p0) [] [] p1) "__init__" p2) [.Constant (.str msg) j p3] [] p4) X.env = (do
      let ov ← attributeBase (.Call (.Name "super" p0) [] [] p1) "__init__" X.env (eval (.Call (.Name "super" p0) [] [] p1) X.env)
      standAt p2.atName
      let (f, first) ← holding [ov] (getMethod ov "__init__" pl)
      callWith p4 f first (backTo p4 (starEach [.Constant (.str msg) j p3] X.env)) []))
    (hia : interactive X.env = false) (hsw : swapsWith (.Call (.Attribute (.Call (.Name "super" p0) [] [] p1) "__init__" p2) [.Constant (.str msg) j p3] [] p4) none p5.line X.env = pure false)
    (hs2 : swapsWith (.Name v q3) (some (.Attribute (.Name "self" q1) fld q2)) q4.line X.env = pure false)
    (h : ∀ dx s', H dx = none → dx ≠ a → Inv X pins σ (upd (upd H dx (exd dx [(fld, y)])) a (exo a C (some dx))) s' → Q .next s') :
    _root_.PySem.wpAt (model X.prog X.w) X.A (.func bd X.env) (execs [exSup msg j p0 p1 p2 p3 p4 p5, exSto fld v q1 q2 q3 q4] X.env) Q X.xe s := by
  refine PySem.ks_wpAt_execs_cons (sup_init T I hσ ha hN he har hks hkc hka hfile htop hev hia hsw fun s' I' => ?_)
  refine _root_.PySem.wpAt_of_wpAny ?_
  have visS : Vis X.env.scope "self" := Or.inl (by rw [he]; exact hka)
  have visV : Vis X.env.scope v := Or.inl (by rw [he]; exact hkv)
  have hr := (pss_one (ps_ost (f := fld) (p' := q2) (pos := q4) (pe_var (i := 0) (pos := q1) hN visS) (pe_var (i := 1) (pos := q3) hN1 visV hv1 hv2) hs2)).run pins s' σ H
    { nx := fun σ' H' => σ' = σ ∧ ∃ dx, H dx = none ∧ dx ≠ a ∧ H' = upd (upd H dx (exd dx [(fld, y)])) a (exo a C (some dx)), rt := fun _ _ => False } I'
    (by
      refine ⟨y, hσ1, .ref a, hσ, a, C, rfl, T.oex, hno, Or.inl ⟨ha, fun dx n ne => ⟨rfl, dx, n, ne, rfl⟩⟩⟩)
  refine wpAny_mono hr (fun fl s2 hs => ?_) fun _ _ z => z
  cases fl with
  | next =>
    obtain ⟨σ', H', J, eσ, dx, n, ne, eH⟩ := hs
    subst eσ
    subst eH
    exact h dx s2 n ne J
  | ret u =>
    obtain ⟨_, _, _, _, _, q⟩ := hs
    exact q.elim
  | brk =>
    obtain ⟨_, _, _, q⟩ := hs
    exact q.elim
  | cont =>
    obtain ⟨_, _, _, q⟩ := hs
    exact q.elim
end

/-- the text of such an __init__: v its parameter, which is the field, too -/
structure ExDef (st : Stmt) (v : Str) : Prop where
  txt : ∃ (msg : Str) (j : Nat) (p0 p1 p2 p3 p4 p5 q1 q2 q3 q4 : Pos), defBody st = [exSup msg j p0 p1 p2 p3 p4 p5, exSto v v q1 q2 q3 q4] ∧ ∀ env : Env, env.scope = defScope st →
    (∃ pl : Sem Bool, eval (.Call (.Attribute (.Call (.Name "super" p0) [] [] p1) "__init__" p2) [.Constant (.str msg) j p3] [] p4) env = (do
      let ov ← attributeBase (.Call (.Name "super" p0) [] [] p1) "__init__" env (eval (.Call (.Name "super" p0) [] [] p1) env)
      standAt p2.atName
      let (f, first) ← holding [ov] (getMethod ov "__init__" pl)
      callWith p4 f first (backTo p4 (starEach [.Constant (.str msg) j p3] env)) [])) ∧ interactive env = false ∧
    swapsWith (.Call (.Attribute (.Call (.Name "super" p0) [] [] p1) "__init__" p2) [.Constant (.str msg) j p3] [] p4) none p5.line env = pure false ∧
    swapsWith (.Name v q3) (some (.Attribute (.Name "self" q1) v q2)) q4.line env = pure false
  har : ((defArgs st).posonlyargs ++ (defArgs st).args).head?.map (·.arg) = some "self"
  sc : nscB ["self", v, "__class__"] ["self", v] ["__class__"] (defScope st) = true
  hks : (defScope st).names.lookup ("super" : Str) = some .globalImplicit
  hv1 : (v == ("__debug__" : Str)) = false
  hv2 : (v == ("__classdict__" : Str)) = false
  bind : ∀ (qual : Str) (cl : List (Str × Addr)) (kV doc pm : Value) (an : Option Addr) (cdv ct : Value) (us : List Value), us.length = (["self", v] : List Str).length → bindArgs (PySem.W.fnX "__init__" qual (defArgs st) (defBody st) (defScope st) cl .none kV doc pm an cdv ct) ⟨us, []⟩ = pure ((["self", v] : List Str).zip us)

/-- what it promises -/
def spEx (C : Addr) (fld : Str) : Sp := fun vs H Q _ => ∃ (a : Addr) (y : V), vs = [.ref a, y] ∧ H a = some (exo a C none) ∧ ∀ dx, H dx = none → dx ≠ a → Q .non (upd (upd H dx (exd dx [(fld, y)])) a (exo a C (some dx)))

section
variable {P : Program} {w : World} {K : PySem.W.Frag} {mg : Str → Option Value} {base : Heap} {C fI cc cda : Addr} {qual file : Str} {st : Stmt} {v : Str}
theorem ex_init {CX : CXT} (T : ExT K C fI cc cda qual (defArgs st) (defBody st) (defScope st) file) (D : ExDef st v) (hno : PySem.W.findIn K (.ref C) v = some none)
    (hfile : ((P.main.file : Str) == file) = true) (htop : (P.main.scope.names.lookup ("super" : Str)).isSome = false) :
    ∃ fd, Binds K fd ["self", v] [] ∧ FnOk P w K mg base CX 1 fI fd ["self", v] (spEx C v) := by
  obtain ⟨oc, od, kV, doc, pm, ct, an, osl, lk⟩ := T.fn
  obtain ⟨cl, cld, csl, lcell⟩ := T.cell
  obtain ⟨msg, j, p0, p1, p2, p3, p4, p5, q1, q2, q3, q4, hbody, henv⟩ := D.txt
  have S := nscope_by D.sc
  have lenE : ∀ (vs : List V) (H : Hp) (Q : VK) (E : XK), spEx C v vs H Q E → vs.length = (["self", v] : List Str).length := fun vs H Q E ⟨a, y, e, _⟩ => by rw [e]; rfl
  refine ⟨PySem.W.fnX "__init__" qual (defArgs st) (defBody st) (defScope st) [("__class__", cc)] .none kV doc pm an (.ref cda) ct, .all fun us hl => D.bind qual _ kV doc pm an (.ref cda) ct us hl, lenE, fun A outer s H args us vs Q E hr e0 hb r hsp => ?_⟩
  have hl := lenE _ _ _ _ hsp
  obtain ⟨a, y, rfl, ha, k⟩ := hsp
  have KX : K.In s.heap := e0.mod.kin.keeps fun b o e => (e0.bs b o e).1
  have lim : s.heap.NoLimit := e0.mod.nolimit.keeps fun b o e => (e0.bs b o e).1
  refine PySem.ks_codeAny_call_defAt hr.depth (KX _ _ lk) rfl lim (PySem.W.codeRec_of KX T.cd) rfl hb S.nocell (fun ⟨n, _⟩ hy => S.par n (List.of_mem_zip hy).1) (fun h₁ hns kp => ?_) S.co S.gen S.kind
  have hcl0 : ∀ y c, ([(("__class__" : Str), cc)] : List (Str × Addr)).lookup y = some c → c = cc := fun y c e => by
    have e2 : (match y == ("__class__" : Str) with | true => some cc | false => none) = some c := e
    cases q : (y == ("__class__" : Str)) with
    | true => rw [q] at e2; exact (Option.some.inj e2).symm
    | false => rw [q] at e2; cases e2
  have hcl1 : ∀ y c, ([(("__class__" : Str), cc)] : List (Str × Addr)).lookup y = some c → y = "__class__" := fun y c e => by
    have e2 : (match y == ("__class__" : Str) with | true => some cc | false => none) = some c := e
    cases q : (y == ("__class__" : Str)) with
    | true => exact beq_iff_eq.mp q
    | false => rw [q] at e2; cases e2
  have hHc : H cc = none := (e0.bs _ _ (e0.mod.kin _ _ lcell)).2
  have hcc : s.heap.IsCell cc (some (.ref C)) := ⟨_, KX _ _ lcell, rfl⟩
  have CA : CellsAt [("__class__", cc)] ["__class__"] [none] s.heap H :=
    ⟨rfl, fun y c e => by rw [hcl0 y c e]; exact ⟨hHc, _, hcc⟩, fun x y c e1 e2 => (hcl1 x c e1).trans (hcl1 y c e2).symm, fun i y e => by
      cases i with
      | zero =>
        have ey : y = "__class__" := (Option.some.inj e).symm
        subst ey
        exact ⟨cc, rfl, fun v hv => by cases hv⟩
      | succ i => cases e⟩
  have I := inv_startN (CX := CX) (P := P) (w := w) (K := K) (mg := mg) (base := base) (N := ["self", v, "__class__"]) (ps := ["self", v]) (fr := ["__class__"]) (F := ⟨"__init__", qual, defArgs st, defBody st, defScope st, [("__class__", cc)], cda⟩) (f := fI) (A := A) (outer := outer) (s := s) (H := H) (E := E) (us := us) (vs := [.ref a, y]) (ws := [none]) (tk := s.toks + ((["self", v] : List Str).zip us).length) S hr.hd e0 hl r CA hns kp
  obtain ⟨⟨pl, hev⟩, hia, hsw, hs2⟩ := henv (envF ⟨"__init__", qual, defArgs st, defBody st, defScope st, [("__class__", cc)], cda⟩ fI s.heap.objs.size) rfl
  show _root_.PySem.wpAt (model P w) (A.deeper (envF ⟨"__init__", qual, defArgs st, defBody st, defScope st, [("__class__", cc)], cda⟩ fI s.heap.objs.size)) (.func (defBody st) (envF ⟨"__init__", qual, defArgs st, defBody st, defScope st, [("__class__", cc)], cda⟩ fI s.heap.objs.size)) (execs (defBody st) (envF ⟨"__init__", qual, defArgs st, defBody st, defScope st, [("__class__", cc)], cda⟩ fI s.heap.objs.size)) _ _ _
  refine _root_.PySem.wpAt_mono ?_ (fun _ _ z => z) fun _ _ z => z
  have hrun := init_run (a := a) (y := y) (bd := defBody st) (Q := fun fl s' => CR CX outer P w H s Q E (.ok (.ret (match fl with | .ret v => v | _ => .none))) s') T I rfl rfl ha rfl rfl rfl D.har D.hks (S.frk _ (by simp)) (S.par _ (by simp)) (S.par _ (by simp)) D.hv1 D.hv2 hno hfile htop hev hia hsw hs2
    (fun dx s' n ne J => ⟨.non, _, J.os, J.bare, J.base, J.hok, rfl, k dx n ne⟩)
  rw [← hbody] at hrun
  exact hrun

/-- the same while an exception is handled -/
theorem ex_initH {CX : CXT} (T : ExT K C fI cc cda qual (defArgs st) (defBody st) (defScope st) file) (D : ExDef st v) (hno : PySem.W.findIn K (.ref C) v = some none)
    (hfile : ((P.main.file : Str) == file) = true) (htop : (P.main.scope.names.lookup ("super" : Str)).isSome = false) :
    ∃ fd, Binds K fd ["self", v] [] ∧ L2H.FnH P w K mg base CX 1 fI fd ["self", v] (spEx C v) := by
  obtain ⟨oc, od, kV, doc, pm, ct, an, osl, lk⟩ := T.fn
  obtain ⟨cl, cld, csl, lcell⟩ := T.cell
  obtain ⟨msg, j, p0, p1, p2, p3, p4, p5, q1, q2, q3, q4, hbody, henv⟩ := D.txt
  have S := nscope_by D.sc
  have lenE : ∀ (vs : List V) (H : Hp) (Q : VK) (E : XK), spEx C v vs H Q E → vs.length = (["self", v] : List Str).length := fun vs H Q E ⟨a, y, e, _⟩ => by rw [e]; rfl
  refine ⟨PySem.W.fnX "__init__" qual (defArgs st) (defBody st) (defScope st) [("__class__", cc)] .none kV doc pm an (.ref cda) ct, .all fun us hl => D.bind qual _ kV doc pm an (.ref cda) ct us hl, lenE, fun A outer s H args us vs Q E pp hr hot hpin e0 hb r hsp => ?_⟩
  have hl := lenE _ _ _ _ hsp
  obtain ⟨a, y, rfl, ha, k⟩ := hsp
  have KX : K.In s.heap := e0.mod.kin.keeps fun b o e => (e0.bs b o e).1
  have lim : s.heap.NoLimit := e0.mod.nolimit.keeps fun b o e => (e0.bs b o e).1
  refine PySem.ks_codeAny_call_defAt hr.depth (KX _ _ lk) rfl lim (PySem.W.codeRec_of KX T.cd) rfl hb S.nocell (fun ⟨n, _⟩ hy => S.par n (List.of_mem_zip hy).1) (fun h₁ hns kp => ?_) S.co S.gen S.kind
  have hcl0 : ∀ y c, ([(("__class__" : Str), cc)] : List (Str × Addr)).lookup y = some c → c = cc := fun y c e => by
    have e2 : (match y == ("__class__" : Str) with | true => some cc | false => none) = some c := e
    cases q : (y == ("__class__" : Str)) with
    | true => rw [q] at e2; exact (Option.some.inj e2).symm
    | false => rw [q] at e2; cases e2
  have hcl1 : ∀ y c, ([(("__class__" : Str), cc)] : List (Str × Addr)).lookup y = some c → y = "__class__" := fun y c e => by
    have e2 : (match y == ("__class__" : Str) with | true => some cc | false => none) = some c := e
    cases q : (y == ("__class__" : Str)) with
    | true => exact beq_iff_eq.mp q
    | false => rw [q] at e2; cases e2
  have hHc : H cc = none := (e0.bs _ _ (e0.mod.kin _ _ lcell)).2
  have hcc : s.heap.IsCell cc (some (.ref C)) := ⟨_, KX _ _ lcell, rfl⟩
  have CA : CellsAt [("__class__", cc)] ["__class__"] [none] s.heap H :=
    ⟨rfl, fun y c e => by rw [hcl0 y c e]; exact ⟨hHc, _, hcc⟩, fun x y c e1 e2 => (hcl1 x c e1).trans (hcl1 y c e2).symm, fun i y e => by
      cases i with
      | zero =>
        have ey : y = "__class__" := (Option.some.inj e).symm
        subst ey
        exact ⟨cc, rfl, fun v hv => by cases hv⟩
      | succ i => cases e⟩
  have I0 := inv_startN (CX := CX) (P := P) (w := w) (K := K) (mg := mg) (base := base) (N := ["self", v, "__class__"]) (ps := ["self", v]) (fr := ["__class__"]) (F := ⟨"__init__", qual, defArgs st, defBody st, defScope st, [("__class__", cc)], cda⟩) (f := fI) (A := { A with handled := none }) (outer := outer) (s := s) (H := H) (E := E) (us := us) (vs := [.ref a, y]) (ws := [none]) (tk := s.toks + ((["self", v] : List Str).zip us).length) S rfl ⟨e0.frames, e0.mod, e0.bs, e0.bsz, e0.funs, e0.frf, e0.hok, e0.bare⟩ hl r CA hns kp
  have I : Inv { ncx CX P w K mg base ["self", v, "__class__"] ⟨"__init__", qual, defArgs st, defBody st, defScope st, [("__class__", cc)], cda⟩ fI A outer s H E with calm := false, pn := [pp] } [] (startF ["self", v, "__class__"] [.ref a, y] [none]) H { s with heap := h₁, toks := s.toks + ((["self", v] : List Str).zip us).length } :=
    ⟨⟨I0.ok.mod, I0.ok.kind, I0.ok.glob, I0.ok.blt, I0.ok.above, I0.ok.inj, I0.ok.has, I0.ok.cab, fun z => Bool.noConfusion (show false = true from z), Around.frames_deeper e0.frames, I0.ok.stk, I0.ok.exf, I0.ok.bs, I0.ok.bsz, I0.ok.noex, I0.ok.exfs, I0.ok.funs, I0.ok.frf⟩,
      I0.os, I0.bare, I0.base, I0.loc, I0.cell, I0.free, I0.freeC, fun q hq => by
        have eq : q = pp := by simpa using (show q ∈ [pp] ++ ([] : List (Addr × Obj)) from hq)
        rw [eq]
        exact ⟨kp pp.1 pp.2 hpin.get, hpin.free, Nat.ne_of_lt (Heap.lt_size hpin.get), hpin.nofs, hpin.nocell⟩, I0.hok, I0.len⟩
  obtain ⟨⟨pl, hev⟩, hia, hsw, hs2⟩ := henv (envF ⟨"__init__", qual, defArgs st, defBody st, defScope st, [("__class__", cc)], cda⟩ fI s.heap.objs.size) rfl
  show _root_.PySem.wpAt (model P w) (A.deeper (envF ⟨"__init__", qual, defArgs st, defBody st, defScope st, [("__class__", cc)], cda⟩ fI s.heap.objs.size)) (.func (defBody st) (envF ⟨"__init__", qual, defArgs st, defBody st, defScope st, [("__class__", cc)], cda⟩ fI s.heap.objs.size)) (execs (defBody st) (envF ⟨"__init__", qual, defArgs st, defBody st, defScope st, [("__class__", cc)], cda⟩ fI s.heap.objs.size)) _ _ _
  refine _root_.PySem.wpAt_mono ?_ (fun _ _ z => z) fun _ _ z => z
  have hrun := init_run (a := a) (y := y) (bd := defBody st) (Q := fun fl s' => CR CX outer P w H s Q E (.ok (.ret (match fl with | .ret v => v | _ => .none))) s') T I rfl rfl ha rfl rfl rfl D.har D.hks (S.frk _ (by simp)) (S.par _ (by simp)) (S.par _ (by simp)) D.hv1 D.hv2 hno hfile htop hev hia hsw hs2
    (fun dx s' n ne J => ⟨.non, _, J.os, J.bare, J.base, J.hok, rfl, k dx n ne⟩)
  rw [← hbody] at hrun
  exact hrun
end

/-- the text of such an __init__ without a field -/
structure ExDef0 (st : Stmt) : Prop where
  txt : ∃ (msg : Str) (j : Nat) (p0 p1 p2 p3 p4 p5 : Pos), defBody st = [exSup msg j p0 p1 p2 p3 p4 p5] ∧ ∀ env : Env, env.scope = defScope st →
    (∃ pl : Sem Bool, eval (.Call (.Attribute (.Call (.Name "super" p0) [] [] p1) "__init__" p2) [.Constant (.str msg) j p3] [] p4) env = (do
      let ov ← attributeBase (.Call (.Name "super" p0) [] [] p1) "__init__" env (eval (.Call (.Name "super" p0) [] [] p1) env)
      standAt p2.atName
      let (f, first) ← holding [ov] (getMethod ov "__init__" pl)
      callWith p4 f first (backTo p4 (starEach [.Constant (.str msg) j p3] env)) [])) ∧ interactive env = false ∧
    swapsWith (.Call (.Attribute (.Call (.Name "super" p0) [] [] p1) "__init__" p2) [.Constant (.str msg) j p3] [] p4) none p5.line env = pure false
  har : ((defArgs st).posonlyargs ++ (defArgs st).args).head?.map (·.arg) = some "self"
  sc : nscB ["self", "__class__"] ["self"] ["__class__"] (defScope st) = true
  hks : (defScope st).names.lookup ("super" : Str) = some .globalImplicit
  bind : ∀ (qual : Str) (cl : List (Str × Addr)) (kV doc pm : Value) (an : Option Addr) (cdv ct : Value) (us : List Value), us.length = (["self"] : List Str).length → bindArgs (PySem.W.fnX "__init__" qual (defArgs st) (defBody st) (defScope st) cl .none kV doc pm an cdv ct) ⟨us, []⟩ = pure ((["self"] : List Str).zip us)

/-- what it promises -/
def spEx0 (C : Addr) : Sp := fun vs H Q _ => ∃ (a : Addr), vs = [.ref a] ∧ H a = some (exo a C none) ∧ Q .non H

section
variable {P : Program} {w : World} {K : PySem.W.Frag} {mg : Str → Option Value} {base : Heap} {C fI cc cda : Addr} {qual file : Str} {st : Stmt}
theorem ex_init0 {CX : CXT} (T : ExT K C fI cc cda qual (defArgs st) (defBody st) (defScope st) file) (D : ExDef0 st)
    (hfile : ((P.main.file : Str) == file) = true) (htop : (P.main.scope.names.lookup ("super" : Str)).isSome = false) :
    ∃ fd, Binds K fd ["self"] [] ∧ FnOk P w K mg base CX 1 fI fd ["self"] (spEx0 C) := by
  obtain ⟨oc, od, kV, doc, pm, ct, an, osl, lk⟩ := T.fn
  obtain ⟨cl, cld, csl, lcell⟩ := T.cell
  obtain ⟨msg, j, p0, p1, p2, p3, p4, p5, hbody, henv⟩ := D.txt
  have S := nscope_by D.sc
  have lenE : ∀ (vs : List V) (H : Hp) (Q : VK) (E : XK), spEx0 C vs H Q E → vs.length = (["self"] : List Str).length := fun vs H Q E ⟨a, e, _⟩ => by rw [e]; rfl
  refine ⟨PySem.W.fnX "__init__" qual (defArgs st) (defBody st) (defScope st) [("__class__", cc)] .none kV doc pm an (.ref cda) ct, .all fun us hl => D.bind qual _ kV doc pm an (.ref cda) ct us hl, lenE, fun A outer s H args us vs Q E hr e0 hb r hsp => ?_⟩
  have hl := lenE _ _ _ _ hsp
  obtain ⟨a, rfl, ha, k⟩ := hsp
  have KX : K.In s.heap := e0.mod.kin.keeps fun b o e => (e0.bs b o e).1
  have lim : s.heap.NoLimit := e0.mod.nolimit.keeps fun b o e => (e0.bs b o e).1
  refine PySem.ks_codeAny_call_defAt hr.depth (KX _ _ lk) rfl lim (PySem.W.codeRec_of KX T.cd) rfl hb S.nocell (fun ⟨n, _⟩ hy => S.par n (List.of_mem_zip hy).1) (fun h₁ hns kp => ?_) S.co S.gen S.kind
  have hcl0 : ∀ y c, ([(("__class__" : Str), cc)] : List (Str × Addr)).lookup y = some c → c = cc := fun y c e => by
    have e2 : (match y == ("__class__" : Str) with | true => some cc | false => none) = some c := e
    cases q : (y == ("__class__" : Str)) with
    | true => rw [q] at e2; exact (Option.some.inj e2).symm
    | false => rw [q] at e2; cases e2
  have hcl1 : ∀ y c, ([(("__class__" : Str), cc)] : List (Str × Addr)).lookup y = some c → y = "__class__" := fun y c e => by
    have e2 : (match y == ("__class__" : Str) with | true => some cc | false => none) = some c := e
    cases q : (y == ("__class__" : Str)) with
    | true => exact beq_iff_eq.mp q
    | false => rw [q] at e2; cases e2
  have hHc : H cc = none := (e0.bs _ _ (e0.mod.kin _ _ lcell)).2
  have hcc : s.heap.IsCell cc (some (.ref C)) := ⟨_, KX _ _ lcell, rfl⟩
  have CA : CellsAt [("__class__", cc)] ["__class__"] [none] s.heap H :=
    ⟨rfl, fun y c e => by rw [hcl0 y c e]; exact ⟨hHc, _, hcc⟩, fun x y c e1 e2 => (hcl1 x c e1).trans (hcl1 y c e2).symm, fun i y e => by
      cases i with
      | zero =>
        have ey : y = "__class__" := (Option.some.inj e).symm
        subst ey
        exact ⟨cc, rfl, fun v hv => by cases hv⟩
      | succ i => cases e⟩
  have I := inv_startN (CX := CX) (P := P) (w := w) (K := K) (mg := mg) (base := base) (N := ["self", "__class__"]) (ps := ["self"]) (fr := ["__class__"]) (F := ⟨"__init__", qual, defArgs st, defBody st, defScope st, [("__class__", cc)], cda⟩) (f := fI) (A := A) (outer := outer) (s := s) (H := H) (E := E) (us := us) (vs := [.ref a]) (ws := [none]) (tk := s.toks + ((["self"] : List Str).zip us).length) S hr.hd e0 hl r CA hns kp
  obtain ⟨⟨pl, hev⟩, hia, hsw⟩ := henv (envF ⟨"__init__", qual, defArgs st, defBody st, defScope st, [("__class__", cc)], cda⟩ fI s.heap.objs.size) rfl
  show _root_.PySem.wpAt (model P w) (A.deeper (envF ⟨"__init__", qual, defArgs st, defBody st, defScope st, [("__class__", cc)], cda⟩ fI s.heap.objs.size)) (.func (defBody st) (envF ⟨"__init__", qual, defArgs st, defBody st, defScope st, [("__class__", cc)], cda⟩ fI s.heap.objs.size)) (execs (defBody st) (envF ⟨"__init__", qual, defArgs st, defBody st, defScope st, [("__class__", cc)], cda⟩ fI s.heap.objs.size)) _ _ _
  refine _root_.PySem.wpAt_mono ?_ (fun _ _ z => z) fun _ _ z => z
  have hrun := init_run0 (a := a) (bd := defBody st) (Q := fun fl s' => CR CX outer P w H s Q E (.ok (.ret (match fl with | .ret v => v | _ => .none))) s') T I rfl ha rfl rfl D.har D.hks (S.frk _ (by simp)) (S.par _ (by simp)) hfile htop hev hia hsw
    (fun s' J => ⟨.non, _, J.os, J.bare, J.base, J.hok, rfl, k⟩)
  rw [← hbody] at hrun
  exact hrun

/-- the same while an exception is handled -/
theorem ex_init0H {CX : CXT} (T : ExT K C fI cc cda qual (defArgs st) (defBody st) (defScope st) file) (D : ExDef0 st)
    (hfile : ((P.main.file : Str) == file) = true) (htop : (P.main.scope.names.lookup ("super" : Str)).isSome = false) :
    ∃ fd, Binds K fd ["self"] [] ∧ L2H.FnH P w K mg base CX 1 fI fd ["self"] (spEx0 C) := by
  obtain ⟨oc, od, kV, doc, pm, ct, an, osl, lk⟩ := T.fn
  obtain ⟨cl, cld, csl, lcell⟩ := T.cell
  obtain ⟨msg, j, p0, p1, p2, p3, p4, p5, hbody, henv⟩ := D.txt
  have S := nscope_by D.sc
  have lenE : ∀ (vs : List V) (H : Hp) (Q : VK) (E : XK), spEx0 C vs H Q E → vs.length = (["self"] : List Str).length := fun vs H Q E ⟨a, e, _⟩ => by rw [e]; rfl
  refine ⟨PySem.W.fnX "__init__" qual (defArgs st) (defBody st) (defScope st) [("__class__", cc)] .none kV doc pm an (.ref cda) ct, .all fun us hl => D.bind qual _ kV doc pm an (.ref cda) ct us hl, lenE, fun A outer s H args us vs Q E pp hr hot hpin e0 hb r hsp => ?_⟩
  have hl := lenE _ _ _ _ hsp
  obtain ⟨a, rfl, ha, k⟩ := hsp
  have KX : K.In s.heap := e0.mod.kin.keeps fun b o e => (e0.bs b o e).1
  have lim : s.heap.NoLimit := e0.mod.nolimit.keeps fun b o e => (e0.bs b o e).1
  refine PySem.ks_codeAny_call_defAt hr.depth (KX _ _ lk) rfl lim (PySem.W.codeRec_of KX T.cd) rfl hb S.nocell (fun ⟨n, _⟩ hy => S.par n (List.of_mem_zip hy).1) (fun h₁ hns kp => ?_) S.co S.gen S.kind
  have hcl0 : ∀ y c, ([(("__class__" : Str), cc)] : List (Str × Addr)).lookup y = some c → c = cc := fun y c e => by
    have e2 : (match y == ("__class__" : Str) with | true => some cc | false => none) = some c := e
    cases q : (y == ("__class__" : Str)) with
    | true => rw [q] at e2; exact (Option.some.inj e2).symm
    | false => rw [q] at e2; cases e2
  have hcl1 : ∀ y c, ([(("__class__" : Str), cc)] : List (Str × Addr)).lookup y = some c → y = "__class__" := fun y c e => by
    have e2 : (match y == ("__class__" : Str) with | true => some cc | false => none) = some c := e
    cases q : (y == ("__class__" : Str)) with
    | true => exact beq_iff_eq.mp q
    | false => rw [q] at e2; cases e2
  have hHc : H cc = none := (e0.bs _ _ (e0.mod.kin _ _ lcell)).2
  have hcc : s.heap.IsCell cc (some (.ref C)) := ⟨_, KX _ _ lcell, rfl⟩
  have CA : CellsAt [("__class__", cc)] ["__class__"] [none] s.heap H :=
    ⟨rfl, fun y c e => by rw [hcl0 y c e]; exact ⟨hHc, _, hcc⟩, fun x y c e1 e2 => (hcl1 x c e1).trans (hcl1 y c e2).symm, fun i y e => by
      cases i with
      | zero =>
        have ey : y = "__class__" := (Option.some.inj e).symm
        subst ey
        exact ⟨cc, rfl, fun v hv => by cases hv⟩
      | succ i => cases e⟩
  have I0 := inv_startN (CX := CX) (P := P) (w := w) (K := K) (mg := mg) (base := base) (N := ["self", "__class__"]) (ps := ["self"]) (fr := ["__class__"]) (F := ⟨"__init__", qual, defArgs st, defBody st, defScope st, [("__class__", cc)], cda⟩) (f := fI) (A := { A with handled := none }) (outer := outer) (s := s) (H := H) (E := E) (us := us) (vs := [.ref a]) (ws := [none]) (tk := s.toks + ((["self"] : List Str).zip us).length) S rfl ⟨e0.frames, e0.mod, e0.bs, e0.bsz, e0.funs, e0.frf, e0.hok, e0.bare⟩ hl r CA hns kp
  have I : Inv { ncx CX P w K mg base ["self", "__class__"] ⟨"__init__", qual, defArgs st, defBody st, defScope st, [("__class__", cc)], cda⟩ fI A outer s H E with calm := false, pn := [pp] } [] (startF ["self", "__class__"] [.ref a] [none]) H { s with heap := h₁, toks := s.toks + ((["self"] : List Str).zip us).length } :=
    ⟨⟨I0.ok.mod, I0.ok.kind, I0.ok.glob, I0.ok.blt, I0.ok.above, I0.ok.inj, I0.ok.has, I0.ok.cab, fun z => Bool.noConfusion (show false = true from z), Around.frames_deeper e0.frames, I0.ok.stk, I0.ok.exf, I0.ok.bs, I0.ok.bsz, I0.ok.noex, I0.ok.exfs, I0.ok.funs, I0.ok.frf⟩,
      I0.os, I0.bare, I0.base, I0.loc, I0.cell, I0.free, I0.freeC, fun q hq => by
        have eq : q = pp := by simpa using (show q ∈ [pp] ++ ([] : List (Addr × Obj)) from hq)
        rw [eq]
        exact ⟨kp pp.1 pp.2 hpin.get, hpin.free, Nat.ne_of_lt (Heap.lt_size hpin.get), hpin.nofs, hpin.nocell⟩, I0.hok, I0.len⟩
  obtain ⟨⟨pl, hev⟩, hia, hsw⟩ := henv (envF ⟨"__init__", qual, defArgs st, defBody st, defScope st, [("__class__", cc)], cda⟩ fI s.heap.objs.size) rfl
  show _root_.PySem.wpAt (model P w) (A.deeper (envF ⟨"__init__", qual, defArgs st, defBody st, defScope st, [("__class__", cc)], cda⟩ fI s.heap.objs.size)) (.func (defBody st) (envF ⟨"__init__", qual, defArgs st, defBody st, defScope st, [("__class__", cc)], cda⟩ fI s.heap.objs.size)) (execs (defBody st) (envF ⟨"__init__", qual, defArgs st, defBody st, defScope st, [("__class__", cc)], cda⟩ fI s.heap.objs.size)) _ _ _
  refine _root_.PySem.wpAt_mono ?_ (fun _ _ z => z) fun _ _ z => z
  have hrun := init_run0 (a := a) (bd := defBody st) (Q := fun fl s' => CR CX outer P w H s Q E (.ok (.ret (match fl with | .ret v => v | _ => .none))) s') T I rfl ha rfl rfl D.har D.hks (S.frk _ (by simp)) (S.par _ (by simp)) hfile htop hev hia hsw
    (fun s' J => ⟨.non, _, J.os, J.bare, J.base, J.hok, rfl, k⟩)
  rw [← hbody] at hrun
  exact hrun
end

/-! ### C(e) raised -/
/-- the reading: the field's value, the error's own dict at d -/
def tExc (C : Addr) (fld : Str) (te : TE) : L2.St → Hp → XK → Prop := fun σ H Q => te σ H fun y H1 => ∀ d, H1 d = none → Q (.ref C) (some d) (upd H1 d (.xd [(fld, y)]))
section
variable {X : Cx} {C fI cc cda : Addr} {qual file : Str} {st : Stmt} {v : Str} {x : Str} {e : Expr} {te : TE} {p pos : Pos}
/-- a reading, weakened behind -/
def tMon (te : TE) : TE := fun σ H Q => ∃ Q0 : VK, te σ H Q0 ∧ ∀ x H1, Q0 x H1 → Q x H1
theorem pe_mon (h : PE X e te) : PE X e (tMon te) := ⟨fun pins s σ H Q I ⟨Q0, q, k⟩ => thn (h.run pins s σ H Q0 I q) fun u s' ⟨v, H', I', r, z⟩ => ⟨v, H', I', r, k v H' z⟩⟩
theorem del_upds {H : Hp} {a dx : Addr} {o1 o2 o3 o4 : HO} (ha : H a = none) (hd : dx ≠ a) : upd (del (upd (upd (upd H a o1) dx o2) a o3) a) dx o4 = upd H dx o4 := by
  funext b
  by_cases h1 : b = dx
  · subst h1
    rw [upd_same, upd_same]
  · rw [upd_ne h1, upd_ne h1]
    by_cases h2 : b = a
    · subst h2
      rw [del_same, ha]
    · rw [del_ne h2, upd_ne h2, upd_ne h1, upd_ne h2]
theorem mko_of {σ : L2.St} {H : Hp} {Q : XK} (h : tExc C v te σ H Q) : tMkO C (spEx C v) [] (tCons (tMon te) tNil) σ H Q := by
  refine ⟨_, h, fun y H1 k => ?_⟩
  refine ⟨by show 1 ≤ 1000; decide, fun a ha => ⟨a, y, rfl, upd_same, fun dx hd ne => ?_⟩⟩
  have hd1 : H1 dx = none := by
    rw [upd_ne ne] at hd
    exact hd
  refine ⟨rfl, dx, [(v, y)], upd_same, by rw [upd_ne ne, upd_same], hd1, ?_⟩
  rw [del_upds ha ne]
  exact k dx hd1

/-- C(e), C's __init__ at fI keeping spEx: the made object is told in full -/
def MkX (X : Cx) (pins : List (Addr × Obj)) (σ : L2.St) (Q : XK) (C : Addr) (u : Value) (s' : Shared) : Prop :=
  ∃ (a d t0 : Addr) (sI : Shared) (H' : Hp), u = .ref a ∧ Inv X pins σ H' sI ∧ (∀ b o, sI.heap.get? b = some o → s'.heap.get? b = some o) ∧ sI.heap.get? a = none ∧
    s'.heap.get? a = some ({ cls := .ref C, dict := some d, data := .fields #[.ref t0, .none, .none, .none, .bool false, .none] } : Obj) ∧ H' a = none ∧ s'.os = sI.os ∧ AllBare s'.gens ∧ Q (.ref C) (some d) H'
theorem mkx {CX : CXT} {fd : FuncData} {k : Nat} (T : OexC X.K C) (iC : PySem.W.findIn X.K (.ref C) "__init__" = some (some (.ref fI))) (tI : PySem.W.typeIn X.K (.ref fI) = some (.type "function")) (F1 : FnOk X.prog X.w X.K X.mg X.base CX k fI fd ["self", v] (spEx C v))
    (hb : Binds X.K fd ["self", v] []) (hr : Room (k + 1) X.A) (hx : Passes CX X (fun _ _ _ => False)) (hg : Gl X x) (hm : X.mg x = some (.ref C)) (he1 : PE X e te) (hdb : (x == ("__debug__" : Str)) = false)
    (he : starEach [e] X.env = (false, eval e X.env) :: starEach [] X.env) (hpl : (backTo pos (starEach [] X.env)).any (·.1) = false)
    (pins : List (Addr × Obj)) (s : Shared) (σ : L2.St) (H : Hp) (Q : XK) (I : Inv X pins σ H s) (h : tExc C v te σ H Q) :
    wpAny (model X.prog X.w) X.A (eval (.Call (.Name x p) [e] [] pos) X.env) (MkX X pins σ Q C) X.xe s := by
  obtain ⟨nm, q, N, bs, bm, sn, sub, ab, col, dd, k0, k1, k2, k3, k5, hC, hbm⟩ := T.cls
  have PAe : PA X [e] (tCons (tMon te) tNil) := pa_cons (pe_mon he1) pa_nil he
  refine wpAny_Call_Name_kw (ld_glob I hg hm ?_ hdb)
  refine PySem.W.callWith_K (h₀ := X.base) I.ok.mod.kin T.kC (thn (PAe.run pos pins s σ H (fun vs H1 => ∃ y, vs = [y] ∧ ∀ d, H1 d = none → Q (.ref C) (some d) (upd H1 d (.xd [(v, y)]))) I ⟨_, h, fun y H1 z => ⟨y, rfl, z⟩⟩) fun us s1 hh => ?_) he hpl
  obtain ⟨vs, H1, I1, r1, y, ev, q1⟩ := hh
  subst ev
  refine ⟨I1.kIn, ?_⟩
  show wpAny _ _ (call (.ref C) us) _ _ _
  obtain ⟨hp, g, dr, tk, os⟩ := s1
  have hsz : hp.objs.size ≤ hp.objs.size + 1 := Nat.le_succ _
  have hn : H1 (hp.objs.size + 1) = none := I1.hok.fresh hsz
  have kk : ∀ b o, hp.get? b = some o → ((hp.push (PySem.W.kdv_tup us)).push (PySem.HandSPX.excO C hp.objs.size)).get? b = some o := fun b o e => Heap.get?_push_of_some _ (Heap.get?_push_of_some _ e)
  have hget : ((hp.push (PySem.W.kdv_tup us)).push (PySem.HandSPX.excO C hp.objs.size)).get? (hp.objs.size + 1) = some (PySem.HandSPX.excO C hp.objs.size) := by heap_get
  have I2 : Inv X pins σ (upd H1 (hp.objs.size + 1) (exo (hp.objs.size + 1) C none)) ⟨(hp.push (PySem.W.kdv_tup us)).push (PySem.HandSPX.excO C hp.objs.size), g, dr, tk, os⟩ :=
    I1.laid (t' := tk) (a := hp.objs.size + 1) (o := exo (hp.objs.size + 1) C none) (h' := (hp.push (PySem.W.kdv_tup us)).push (PySem.HandSPX.excO C hp.objs.size)) kk hsz (exo_ok hget)
  have r2 : Vals [V.ref (hp.objs.size + 1), y] (Value.ref (hp.objs.size + 1) :: us) := .cons rfl r1
  have hl : (Value.ref (hp.objs.size + 1) :: us ++ []).length = (["self", v] : List Str).length := by
    rw [List.append_nil, ← r2.length]
    rfl
  have hus : us.length ≤ sizeLine := by
    rw [← Paired.length r1]
    show 1 ≤ sizeLine
    decide
  have b2 := hb _ (Value.ref (hp.objs.size + 1) :: us) I2.kIn hl
  rw [List.append_nil] at b2
  have hsp : spEx C v [V.ref (hp.objs.size + 1), y] (upd H1 (hp.objs.size + 1) (exo (hp.objs.size + 1) C none)) (fun w2 H2 => w2 = .non ∧ ∃ d, H2 = upd (upd (upd H1 (hp.objs.size + 1) (exo (hp.objs.size + 1) C none)) d (exd d [(v, y)])) (hp.objs.size + 1) (exo (hp.objs.size + 1) C (some d)) ∧ d ≠ hp.objs.size + 1 ∧ H1 d = none) (fun _ _ _ => False) :=
    ⟨_, _, rfl, upd_same, fun dx hd ne => ⟨rfl, dx, rfl, ne, by rw [upd_ne ne] at hd; exact hd⟩⟩
  refine wpAny_call (PySem.HandSPX.call_own F.excBase_ValueError (fun Y => PySem.HandSPX.refsVE_contains Y bm hbm) (I1.kIn _ _ hC) (PySem.W.looks_findIn I1.kIn iC) (fun self => PySem.W.bind_fn I1.kIn self tI) hus
    (codeAny_mono (F1.run _ X.stack _ _ ⟨Value.ref (hp.objs.size + 1) :: us, []⟩ (Value.ref (hp.objs.size + 1) :: us) _ _ (fun _ _ _ => False) (hr.make C us []) (I2.env0.make C us []) b2 r2 hsp) fun r s' hq' => ?_))
  cases r with
  | error er => exact hx pins σ _ _ er s' I2 hq'
  | ok fl =>
    cases fl with
    | ret u =>
      obtain ⟨w2, H2, os2, bare2, un2, hok2, rv, ev, d, eH, ne, hd1⟩ := hq'
      subst ev
      obtain ⟨h2, g2, d2, t2, os'⟩ := s'
      have ea : H2 (hp.objs.size + 1) = some (exo (hp.objs.size + 1) C (some d)) := by rw [eH, upd_same]
      have ed : H2 d = some (exd d [(v, y)]) := by rw [eH, upd_ne ne, upd_same]
      obtain ⟨t0, G, J, kG, ge, hoe, na⟩ := mk_end0 (d2 := d2) (t2 := t2) I1 hsz kk un2 hok2 os2 bare2 ea ed hd1
      have eQ : upd (del H2 (hp.objs.size + 1)) d (.xd [(v, y)]) = upd H1 d (.xd [(v, y)]) := by rw [eH]; exact del_upds hn ne
      rw [eQ] at J na
      exact ⟨rv, hp.objs.size + 1, d, t0, ⟨G, g2, d2, t2, os'⟩, _, rfl, J, kG, ge, hoe, na, rfl, bare2, q1 d hd1⟩
    | next => exact False.elim hq'
    | brk => exact False.elim hq'
    | cont => exact False.elim hq'
/-- raise C(e): for ps_raise -/
theorem pmk_ex {CX : CXT} {fd : FuncData} {k : Nat} (T : OexC X.K C) (iC : PySem.W.findIn X.K (.ref C) "__init__" = some (some (.ref fI))) (tI : PySem.W.typeIn X.K (.ref fI) = some (.type "function")) (F1 : FnOk X.prog X.w X.K X.mg X.base CX k fI fd ["self", v] (spEx C v))
    (hb : Binds X.K fd ["self", v] []) (hr : Room (k + 1) X.A) (hx : Passes CX X (fun _ _ _ => False)) (hg : Gl X x) (hm : X.mg x = some (.ref C)) (he1 : PE X e te) (hdb : (x == ("__debug__" : Str)) = false := by decide)
    (he : starEach [e] X.env = (false, eval e X.env) :: starEach [] X.env := by rfl) (hpl : (backTo pos (starEach [] X.env)).any (·.1) = false := by rfl) : PMk X (.Call (.Name x p) [e] [] pos) (tExc C v te) := fun pins s σ H Q I h =>
  thn (mkx T iC tI F1 hb hr hx hg hm he1 hdb he hpl pins s σ H Q I h) fun u s' ⟨a, d, t0, sI, H', eu, J, kk, n1, g, n2, os, ag, q⟩ =>
    ⟨a, _, _, sI, H', .ref C, some d, eu, J, kk, n1, g, ⟨rfl, rfl⟩, rfl, rfl, n2, os, ag, raises_own T.exC T.tyC, q⟩
/-- the same for the world of exceptions whose context is None -/
theorem pmkN_ex {CX : CXT} {fd : FuncData} {k : Nat} (T : OexC X.K C) (iC : PySem.W.findIn X.K (.ref C) "__init__" = some (some (.ref fI))) (tI : PySem.W.typeIn X.K (.ref fI) = some (.type "function")) (F1 : FnOk X.prog X.w X.K X.mg X.base CX k fI fd ["self", v] (spEx C v))
    (hb : Binds X.K fd ["self", v] []) (hr : Room (k + 1) X.A) (hx : Passes CX X (fun _ _ _ => False)) (hg : Gl X x) (hm : X.mg x = some (.ref C)) (he1 : PE X e te) (hdb : (x == ("__debug__" : Str)) = false := by decide)
    (he : starEach [e] X.env = (false, eval e X.env) :: starEach [] X.env := by rfl) (hpl : (backTo pos (starEach [] X.env)).any (·.1) = false := by rfl) : L2N.PMk X (.Call (.Name x p) [e] [] pos) (tExc C v te) := fun pins s σ H Q I h =>
  thn (mkx T iC tI F1 hb hr hx hg hm he1 hdb he hpl pins s σ H Q I h) fun u s' ⟨a, d, t0, sI, H', eu, J, kk, n1, g, n2, os, ag, q⟩ =>
    ⟨a, _, _, sI, H', .ref C, some d, eu, J, kk, n1, g, ⟨rfl, rfl, fun vs hv => by cases hv; rfl⟩, rfl, rfl, n2, os, ag, raises_own T.exC T.tyC, q⟩
/-- the same within an except suite -/
theorem pmkH_ex {CX : CXT} {fd : FuncData} {k : Nat} (T : OexC X.K C) (iC : PySem.W.findIn X.K (.ref C) "__init__" = some (some (.ref fI))) (tI : PySem.W.typeIn X.K (.ref fI) = some (.type "function")) (F1 : L2H.FnH X.prog X.w X.K X.mg X.base CX k fI fd ["self", v] (spEx C v))
    (hb : Binds X.K fd ["self", v] []) (hr : L2H.RoomH (k + 1) X.A) (hc : L2H.HotC X) (hx : Passes CX X (fun _ _ _ => False)) (hg : Gl X x) (hm : X.mg x = some (.ref C)) (he1 : PE X e te) (hdb : (x == ("__debug__" : Str)) = false := by decide)
    (he : starEach [e] X.env = (false, eval e X.env) :: starEach [] X.env := by rfl) (hpl : (backTo pos (starEach [] X.env)).any (·.1) = false := by rfl) : L2N.PMk X (.Call (.Name x p) [e] [] pos) (tExc C v te) := fun pins s σ H Q I h =>
  (L2H.pmk5_oexH T iC tI F1 hr hc hb hx hg hm (pa_cons (pe_mon he1) pa_nil he) hdb he hpl).pmk pins s σ H Q I (mko_of h)
end

/-! ### the facts, as a Bool of what is looked at -/
def oexB (K : PySem.W.Frag) (C : Addr) : Bool := match K.lookup C with
  | some ⟨.type "type", _, .cls cd, sl⟩ => (match cd.mro, sl.toList with
    | .ref C' :: bm, [_, _, _, _, some (.builtin n), _] => C' == C && n == "ValueError.__new__" && !cd.hasDel && cd.hasDict && PySem.HandSPX.refsVE bm
    | _, _ => false)
  | _ => false
theorem oexB_ok {K : PySem.W.Frag} {C : Addr} (h : oexB K C = true) : ∃ nm q N bs bm sn sub ab col dd k0 k1 k2 k3 k5, K.lookup C = some (excClassObj nm q C N bs bm true sn sub ab col dd k0 k1 k2 k3 k5 "ValueError.__new__") ∧ PySem.HandSPX.refsVE bm = true := by
  unfold oexB at h
  split at h
  · rename_i dd cd sl ho
    split at h
    · rename_i C' bm k0 k1 k2 k3 n k5 hm hs
      simp only [Bool.and_eq_true, beq_iff_eq, Bool.not_eq_true'] at h
      obtain ⟨⟨⟨⟨rfl, rfl⟩, hdel⟩, hd⟩, hb⟩ := h
      obtain ⟨nm, bs, mro, ns, qn, hdc, sn, sub, ab, col, del⟩ := cd
      dsimp only at hm hdel hd
      subst hm hdel hd
      have hsl : sl = #[k0, k1, k2, k3, some (.builtin "ValueError.__new__"), k5] := by
        obtain ⟨l⟩ := sl
        simp only at hs
        rw [hs]
      subst hsl
      exact ⟨nm, qn, ns, bs, bm, sn, sub, ab, col, dd, k0, k1, k2, k3, k5, ho, hb⟩
    · cases h
  · cases h

/-! ### an exception as a value -/
section
variable {X : Cx} {C fI a : Addr} {v : Str} {x : Str} {e : Expr} {te : TE} {p pos : Pos}
/-- C(e), kept: the object at a, its dict at d -/
def tExv (C : Addr) (fld : Str) (te : TE) : TE := fun σ H Q => te σ H fun y H1 => ∀ a d, H1 a = none → H1 d = none → d ≠ a → Q (.ref a) (upd (upd H1 d (exd d [(fld, y)])) a (exo a C (some d)))
theorem upd_thrice {H : Hp} {a d : Addr} {o1 o2 o3 : HO} (hd : d ≠ a) : upd (upd (upd H a o1) d o2) a o3 = upd (upd H d o2) a o3 := by
  funext b
  by_cases h1 : b = a
  · subst h1
    rw [upd_same, upd_same]
  · rw [upd_ne h1, upd_ne h1]
    by_cases h2 : b = d
    · subst h2
      rw [upd_same, upd_same]
    · rw [upd_ne h2, upd_ne h2, upd_ne h1]
theorem pe_exv {CX : CXT} {fd : FuncData} {k : Nat} (T : OexC X.K C) (iC : PySem.W.findIn X.K (.ref C) "__init__" = some (some (.ref fI))) (tI : PySem.W.typeIn X.K (.ref fI) = some (.type "function")) (F1 : FnOk X.prog X.w X.K X.mg X.base CX k fI fd ["self", v] (spEx C v))
    (hb : Binds X.K fd ["self", v] []) (hr : Room (k + 1) X.A) (hx : Passes CX X (fun _ _ _ => False)) (hg : Gl X x) (hm : X.mg x = some (.ref C)) (he1 : PE X e te) (hdb : (x == ("__debug__" : Str)) = false := by decide)
    (he : starEach [e] X.env = (false, eval e X.env) :: starEach [] X.env := by rfl) (hpl : (backTo pos (starEach [] X.env)).any (·.1) = false := by rfl) : PE X (.Call (.Name x p) [e] [] pos) (tExv C v te) := by
  refine ⟨fun pins s σ H Q I h => ?_⟩
  obtain ⟨nm, q, N, bs, bm, sn, sub, ab, col, dd, k0, k1, k2, k3, k5, hC, hbm⟩ := T.cls
  have PAe : PA X [e] (tCons (tMon te) tNil) := pa_cons (pe_mon he1) pa_nil he
  refine wpAny_Call_Name_kw (ld_glob I hg hm ?_ hdb)
  refine PySem.W.callWith_K (h₀ := X.base) I.ok.mod.kin T.kC (thn (PAe.run pos pins s σ H (fun vs H1 => ∃ y, vs = [y] ∧ ∀ a d, H1 a = none → H1 d = none → d ≠ a → Q (.ref a) (upd (upd H1 d (exd d [(v, y)])) a (exo a C (some d)))) I ⟨_, h, fun y H1 z => ⟨y, rfl, z⟩⟩) fun us s1 hh => ?_) he hpl
  obtain ⟨vs, H1, I1, r1, y, ev, q1⟩ := hh
  subst ev
  refine ⟨I1.kIn, ?_⟩
  show wpAny _ _ (call (.ref C) us) _ _ _
  obtain ⟨hp, g, dr, tk, os⟩ := s1
  have hsz : hp.objs.size ≤ hp.objs.size + 1 := Nat.le_succ _
  have hn : H1 (hp.objs.size + 1) = none := I1.hok.fresh hsz
  have kk : ∀ b o, hp.get? b = some o → ((hp.push (PySem.W.kdv_tup us)).push (PySem.HandSPX.excO C hp.objs.size)).get? b = some o := fun b o e => Heap.get?_push_of_some _ (Heap.get?_push_of_some _ e)
  have hget : ((hp.push (PySem.W.kdv_tup us)).push (PySem.HandSPX.excO C hp.objs.size)).get? (hp.objs.size + 1) = some (PySem.HandSPX.excO C hp.objs.size) := by heap_get
  have I2 : Inv X pins σ (upd H1 (hp.objs.size + 1) (exo (hp.objs.size + 1) C none)) ⟨(hp.push (PySem.W.kdv_tup us)).push (PySem.HandSPX.excO C hp.objs.size), g, dr, tk, os⟩ :=
    I1.laid (t' := tk) (a := hp.objs.size + 1) (o := exo (hp.objs.size + 1) C none) (h' := (hp.push (PySem.W.kdv_tup us)).push (PySem.HandSPX.excO C hp.objs.size)) kk hsz (exo_ok hget)
  have r2 : Vals [V.ref (hp.objs.size + 1), y] (Value.ref (hp.objs.size + 1) :: us) := .cons rfl r1
  have hl : (Value.ref (hp.objs.size + 1) :: us ++ []).length = (["self", v] : List Str).length := by
    rw [List.append_nil, ← r2.length]
    rfl
  have hus : us.length ≤ sizeLine := by
    rw [← Paired.length r1]
    show 1 ≤ sizeLine
    decide
  have b2 := hb _ (Value.ref (hp.objs.size + 1) :: us) I2.kIn hl
  rw [List.append_nil] at b2
  have hsp : spEx C v [V.ref (hp.objs.size + 1), y] (upd H1 (hp.objs.size + 1) (exo (hp.objs.size + 1) C none)) (fun w2 H2 => w2 = .non ∧ Q (.ref (hp.objs.size + 1)) H2) (fun _ _ _ => False) :=
    ⟨_, _, rfl, upd_same, fun dx hd ne => ⟨rfl, by rw [upd_thrice ne]; rw [upd_ne ne] at hd; exact q1 _ dx hn hd ne⟩⟩
  refine wpAny_call (PySem.HandSPX.call_own F.excBase_ValueError (fun Y => PySem.HandSPX.refsVE_contains Y bm hbm) (I1.kIn _ _ hC) (PySem.W.looks_findIn I1.kIn iC) (fun self => PySem.W.bind_fn I1.kIn self tI) hus
    (codeAny_mono (F1.run _ X.stack _ _ ⟨Value.ref (hp.objs.size + 1) :: us, []⟩ (Value.ref (hp.objs.size + 1) :: us) _ _ (fun _ _ _ => False) (hr.make C us []) (I2.env0.make C us []) b2 r2 hsp) fun r s' hq' => ?_))
  cases r with
  | error er => exact hx pins σ _ _ er s' I2 hq'
  | ok fl =>
    cases fl with
    | ret u =>
      obtain ⟨w2, H3, J, rv, ev, q3⟩ := I2.after hq'
      subst ev
      have eu : u = Value.none := rv
      subst eu
      exact ⟨rfl, .ref (hp.objs.size + 1), H3, J, rfl, q3⟩
    | next => exact False.elim hq'
    | brk => exact False.elim hq'
    | cont => exact False.elim hq'
/-- err.f of such a value -/
def tExf (K : PySem.W.Frag) (f : Str) (te : TE) : TE := fun σ H Q => te σ H fun x H1 => ∃ (a C d : Addr) (fs : List (Str × V)) (y : V), x = .ref a ∧ XfC K C ∧ PySem.W.findIn K (.ref C) f = some none ∧ H1 a = some (exo a C (some d)) ∧ H1 d = some (exd d fs) ∧ fs.lookup f = some y ∧ Q y H1
theorem pe_exf {f : Str} (he : PE X e te) (hb : attributeBase e f X.env (eval e X.env) = eval e X.env := by rfl) : PE X (.Attribute e f pos) (tExf X.K f te) := by
  refine ⟨fun pins s σ H Q I h => ?_⟩
  refine attr_of hb (thn (he.run pins s σ H _ I h) fun u s1 hh => ?_)
  obtain ⟨x, H1, I1, rx, a, C, d, fs, y, ex, T, hno, ha, hd, l, q⟩ := hh
  subst ex
  obtain rfl : u = Value.ref a := rx
  obtain ⟨t1, ho⟩ := exo_at I1.hok ha
  obtain ⟨mA, hns, hr⟩ := exd_at I1.hok hd
  obtain ⟨od, hod, hl⟩ := lookIn_ns hns
  obtain ⟨u, hu, ru⟩ := RelO.some_of (v := y) (o := mA f) (by rw [← l]; exact hr f)
  have J : PySem.W.InstAt s1.heap a ({ cls := .ref C, dict := some d, data := .fields #[.ref t1, .none, .none, .none, .bool false, .none] } : Obj) C (some od) := ⟨ho, rfl, rfl, hod⟩
  exact HandSPX.exc_get I1.kIn J T.ga T.gg T.exC (PySem.W.findObj_own T.hdC hno rfl (by rw [hl, hu])) (handed_of ru) ⟨y, H1, I1.tok _, ru, q⟩
/-- isinstance(err, c) of such a value -/
def rIsx (K : PySem.W.Frag) : List V → Hp → VK → Prop := fun xs H Q => ∃ (a C : Addr) (d : Option Addr) (c : V) (u : Value) (b : Bool), xs = [.ref a, c] ∧ H a = some (exo a C d) ∧ (∀ dd, d = some dd → ∃ fs, H dd = some (exd dd fs)) ∧ ExcC K C ∧ ClsV c u ∧ PySem.W.kitOne K (.ref C) u = some b ∧ Q (.bl b) H
theorem cls_of_hd {K : PySem.W.Frag} {C : Addr} (h : PySem.W.hasDictIn K C = true) : (PySem.W.clsIn K C).isSome = true := by
  unfold PySem.W.hasDictIn at h
  cases q : PySem.W.clsIn K C with
  | none => rw [q] at h; cases h
  | some cd => rfl
theorem call_isx : CallR X (.builtin "isinstance") (rIsx X.K) := by
  intro pins s σ H xs us Q I r h
  obtain ⟨a, C, d, c, u, b, rfl, ha, hd, T, k, e, q⟩ := h
  obtain ⟨u1, u2, rfl, r1, r2⟩ := vals2 r
  obtain rfl : u1 = Value.ref a := r1
  have e2 := k.eq r2
  subst e2
  obtain ⟨t1, ho⟩ := exo_at I.hok ha
  have fin : ∀ od, PySem.W.InstAt s.heap a ({ cls := .ref C, dict := d, data := .fields #[.ref t1, .none, .none, .none, .bool false, .none] } : Obj) C od → wpAny (model X.prog X.w) X.A (call (.builtin "isinstance") [.ref a, u2]) (EP X pins σ Q) X.xe s := fun od J =>
    PySem.W.kia_one (PySem.W.kitx_exc (cls_of_hd T.hd) T.hg T.hk T.hs T.ha T.hn T.ht T.hm) I.kIn J e (fun z => nomatch z) fun tk => ⟨.bl b, H, I.kept (t' := tk) fun _ _ z => z, rfl, q⟩
  cases d with
  | none => exact fin none ⟨ho, rfl, rfl, trivial⟩
  | some dd =>
    obtain ⟨fs, hx⟩ := hd dd rfl
    obtain ⟨mA, hns, hr⟩ := exd_at I.hok hx
    obtain ⟨od, hod, _⟩ := lookIn_ns hns
    exact fin (some od) ⟨ho, rfl, rfl, hod⟩
/-- isinstance(e, c), e the exception that the suite holds, with its dict -/
def rIsS (K : PySem.W.Frag) (a : Addr) (cls : Value) (d : Option Addr) : List V → Hp → VK → Prop := fun xs H Q => ∃ (C : Addr) (c : V) (u : Value) (b : Bool), xs = [.ref a, c] ∧ cls = .ref C ∧ (∀ dd, d = some dd → ∃ fs, H dd = some (.xd fs)) ∧ ExcC K C ∧ ClsV c u ∧ PySem.W.kitOne K (.ref C) u = some b ∧ Q (.bl b) H
theorem call_isS {oe : Obj} {cls : Value} {d : Option Addr} {pn : List (Addr × Obj)} (hz : Zc cls d oe) (hf : ∃ vs, oe.data = .fields vs) : CallR (X.suite a ((a, oe) :: pn)) (.builtin "isinstance") (rIsS X.K a cls d) := by
  intro pins s σ H xs us Q I r h
  obtain ⟨C, c, u, b, rfl, ec, hd, T, k, e, q⟩ := h
  subst ec
  obtain ⟨u1, u2, rfl, r1, r2⟩ := vals2 r
  obtain rfl : u1 = Value.ref a := r1
  have e2 := k.eq r2
  subst e2
  obtain ⟨hget, _⟩ := I.pin (a, oe) (List.mem_append.mpr (.inl List.mem_cons_self))
  obtain ⟨vs, hv⟩ := hf
  have fin : ∀ od, PySem.W.InstAt s.heap a oe C od → wpAny (model X.prog X.w) (X.suite a ((a, oe) :: pn)).A (call (.builtin "isinstance") [.ref a, u2]) (EP (X.suite a ((a, oe) :: pn)) pins σ Q) (X.suite a ((a, oe) :: pn)).xe s := fun od J =>
    PySem.W.kia_one (PySem.W.kitx_exc (cls_of_hd T.hd) T.hg T.hk T.hs T.ha T.hn T.ht T.hm) I.kIn J e (fun z => nomatch z) fun tk => ⟨.bl b, H, I.kept (t' := tk) fun _ _ z => z, rfl, q⟩
  cases d with
  | none => exact fin none ⟨hget, hz.1, by unfold PySem.W.notCls; rw [hv], by rw [hz.2]; trivial⟩
  | some dd =>
    obtain ⟨fs, hx⟩ := hd dd rfl
    have hx2 : ObjOk X.prog X.w H s.heap dd (.xd fs) := I.hok dd _ hx
    obtain ⟨mA, hns, hr⟩ := hx2
    obtain ⟨od, hod, _⟩ := lookIn_ns hns
    exact fin (some od) ⟨hget, hz.1, by unfold PySem.W.notCls; rw [hv], by rw [hz.2]; exact hod⟩
end

/-! ### C() of a class without a field -/
section
variable {X : Cx} {C fI : Addr} {x : Str} {p pos : Pos}
theorem del_upd_none {H : Hp} {a : Addr} {o : HO} (ha : H a = none) : del (upd H a o) a = H := by
  funext b
  by_cases h : b = a
  · subst h
    rw [del_same, ha]
  · rw [del_ne h, upd_ne h]
theorem upd_upd {H : Hp} {a : Addr} {o1 o2 : HO} : upd (upd H a o1) a o2 = upd H a o2 := by
  funext b
  by_cases h : b = a
  · subst h
    rw [upd_same, upd_same]
  · rw [upd_ne h, upd_ne h, upd_ne h]
/-- C(), kept -/
def tExv0 (C : Addr) : TE := fun _ H Q => ∀ a, H a = none → Q (.ref a) (upd H a (exo a C none))
theorem pe_exv0 {CX : CXT} {fd : FuncData} {k : Nat} (T : OexC X.K C) (iC : PySem.W.findIn X.K (.ref C) "__init__" = some (some (.ref fI))) (tI : PySem.W.typeIn X.K (.ref fI) = some (.type "function")) (F1 : FnOk X.prog X.w X.K X.mg X.base CX k fI fd ["self"] (spEx0 C))
    (hb : Binds X.K fd ["self"] []) (hr : Room (k + 1) X.A) (hx : Passes CX X (fun _ _ _ => False)) (hg : Gl X x) (hm : X.mg x = some (.ref C)) (hdb : (x == ("__debug__" : Str)) = false := by decide) : PE X (.Call (.Name x p) [] [] pos) (tExv0 C) := by
  refine ⟨fun pins s σ H Q I h => ?_⟩
  obtain ⟨nm, q, N, bs, bm, sn, sub, ab, col, dd, k0, k1, k2, k3, k5, hC, hbm⟩ := T.cls
  refine wpAny_Call_Name_kw (ld_glob I hg hm ?_ hdb)
  refine PySem.W.callWith_K0 I.kIn T.kC ?_
  obtain ⟨hp, g, dr, tk, os⟩ := s
  have hsz : hp.objs.size ≤ hp.objs.size + 1 := Nat.le_succ _
  have hn : H (hp.objs.size + 1) = none := I.hok.fresh hsz
  have kk : ∀ b o, hp.get? b = some o → ((hp.push (PySem.W.kdv_tup [])).push (PySem.HandSPX.excO C hp.objs.size)).get? b = some o := fun b o e => Heap.get?_push_of_some _ (Heap.get?_push_of_some _ e)
  have hget : ((hp.push (PySem.W.kdv_tup [])).push (PySem.HandSPX.excO C hp.objs.size)).get? (hp.objs.size + 1) = some (PySem.HandSPX.excO C hp.objs.size) := by heap_get
  have I2 : Inv X pins σ (upd H (hp.objs.size + 1) (exo (hp.objs.size + 1) C none)) ⟨(hp.push (PySem.W.kdv_tup [])).push (PySem.HandSPX.excO C hp.objs.size), g, dr, tk, os⟩ :=
    I.laid (t' := tk) (a := hp.objs.size + 1) (o := exo (hp.objs.size + 1) C none) (h' := (hp.push (PySem.W.kdv_tup [])).push (PySem.HandSPX.excO C hp.objs.size)) kk hsz (exo_ok hget)
  have r2 : Vals [V.ref (hp.objs.size + 1)] [Value.ref (hp.objs.size + 1)] := .cons rfl .nil
  have b2 := hb _ [Value.ref (hp.objs.size + 1)] I2.kIn rfl
  rw [List.append_nil] at b2
  have hsp : spEx0 C [V.ref (hp.objs.size + 1)] (upd H (hp.objs.size + 1) (exo (hp.objs.size + 1) C none)) (fun w2 H2 => w2 = .non ∧ Q (.ref (hp.objs.size + 1)) H2) (fun _ _ _ => False) :=
    ⟨_, rfl, upd_same, rfl, h _ hn⟩
  refine wpAny_call (PySem.HandSPX.call_own F.excBase_ValueError (fun Y => PySem.HandSPX.refsVE_contains Y bm hbm) (I.kIn _ _ hC) (PySem.W.looks_findIn I.kIn iC) (fun self => PySem.W.bind_fn I.kIn self tI) (by show 0 ≤ sizeLine; decide)
    (codeAny_mono (F1.run _ X.stack _ _ ⟨[Value.ref (hp.objs.size + 1)], []⟩ [Value.ref (hp.objs.size + 1)] _ _ (fun _ _ _ => False) (hr.make C [] []) (I2.env0.make C [] []) b2 r2 hsp) fun r s' hq' => ?_))
  cases r with
  | error er => exact hx pins σ _ _ er s' I2 hq'
  | ok fl =>
    cases fl with
    | ret u =>
      obtain ⟨w2, H3, J, rv, ev, q3⟩ := I2.after hq'
      subst ev
      have eu : u = Value.none := rv
      subst eu
      exact ⟨rfl, .ref (hp.objs.size + 1), H3, J, rfl, q3⟩
    | next => exact False.elim hq'
    | brk => exact False.elim hq'
    | cont => exact False.elim hq'
end
end BX
set_option Elab.async false
set_option linter.all false
set_option maxRecDepth 100000
set_option maxHeartbeats 2000000
/-! BHead: the facts of a top with such exception classes, by a Hook. -/
namespace BX
open PySem PySem.Spec PyProof.Rows L2 NdefX
/-! ### functions with a closure -/
abbrev FnC : Type := Option (Str × Str × Arguments × FuncBody × Scope × Addr × List Str × Addr × Value)
def fnC (K : PySem.W.Frag) (f : Addr) : FnC := match K.lookup f with
  | some ⟨_, _, .func fd, _⟩ => some (fd.name, fd.qualname, fd.params, fd.body, fd.scope, fd.globals, fd.closure.map (·.1), fd.builtins, fd.defaults)
  | _ => none
def cloOf (K : PySem.W.Frag) (f : Addr) : Addr := match K.lookup f with
  | some ⟨_, _, .func fd, _⟩ => (match fd.closure with
    | [(_, c)] => c
    | _ => 0)
  | _ => 0
def codA (K : PySem.W.Frag) (f : Addr) : Addr := match K.lookup f with
  | some ⟨_, _, .func fd, _⟩ => (match fd.code with
    | .ref c => c
    | _ => 0)
  | _ => 0
def codIn (K : PySem.W.Frag) (f : Addr) (q : Str) : Bool := match K.lookup f with
  | some ⟨_, _, .func fd, _⟩ => PySem.W.codeIn K fd.code q
  | _ => false
def cellB (K : PySem.W.Frag) (c C : Addr) : Bool := match K.lookup c with
  | some ⟨_, _, .cell (some v), _⟩ => decide (v = .ref C)
  | _ => false
def fileB (K : PySem.W.Frag) (c : Addr) (file : Str) : Bool := match K.lookup c with
  | some ⟨_, _, .fields vs, _⟩ => (match vs[2]? with
    | some (Value.str z _) => decide (z = file)
    | _ => false)
  | _ => false
/-- an exception class of the text: its name, its field, its __init__ -/
structure ExD where
  x : Str
  v : Str
  qual : Str
  st : Stmt
abbrev ExD.C (K : PySem.W.Frag) (d : ExD) : Addr := He.ga K d.x
abbrev ExD.fI (K : PySem.W.Frag) (d : ExD) : Addr := He.ma K (He.ga K d.x) "__init__"
def ExD.val (d : ExD) : FnC := some ("__init__", d.qual, defArgs d.st, .stmts (defBody d.st), defScope d.st, mainGlobals, ["__class__"], builtinsNs, .none)
def excB (K : PySem.W.Frag) (C : Addr) : Bool := He.eqO (PySem.W.findIn K (.ref C) "__class__") (some (some (.builtin "object.__class__"))) && (decide (PySem.W.mroIn K C (.type "object") = some true) && xfB K C)
def ExD.ok (file : Str) (K : PySem.W.Frag) (d : ExD) : Bool :=
  He.eqO (PySem.W.nsIn K mainGlobals d.x) (some (some (.ref (d.C K)))) && (oexB K (d.C K) && (He.eqO (PySem.W.findIn K (.ref (d.C K)) "__setattr__") (some (some (.builtin "object.__setattr__"))) && (decide (PySem.W.subIn K (.ref (d.C K)) (.type "BaseException") = some true) && (decide (PySem.W.typeIn K (.ref (d.C K)) = some (.type "type")) && (PySem.W.keepIn K (.ref (d.C K)) &&
    (He.eqO (PySem.W.findIn K (.ref (d.C K)) "__init__") (some (some (.ref (d.fI K)))) && (decide (PySem.W.typeIn K (.ref (d.fI K)) = some (.type "function")) && (codIn K (d.fI K) d.qual && (cellB K (cloOf K (d.fI K)) (d.C K) && (He.eqO (PySem.W.ks_superIn K (d.C K) (d.C K) "__init__") (some (some (.builtin "ValueError.__init__"))) &&
    (decide (PySem.W.subIn K (.ref (d.C K)) (.type "ValueError") = some true) && (fileB K (codA K (d.fI K)) file && (He.eqO (PySem.W.nsIn K mainGlobals "super") (some none) && (He.eqO (PySem.W.nsIn K PySem.cStatics "thirdparty.any") (some none) && (He.eqO (PySem.W.findIn K (.ref (d.C K)) d.v) (some none) && excB K (d.C K))))))))))))))))
/-- what is told of the class -/
structure ExOk (K : PySem.W.Frag) (d : ExD) (file : Str) : Prop where
  glo : PySem.W.nsIn K mainGlobals d.x = some (some (.ref (d.C K)))
  ext : ExT K (d.C K) (d.fI K) (cloOf K (d.fI K)) (codA K (d.fI K)) d.qual (defArgs d.st) (defBody d.st) (defScope d.st) file
  no : PySem.W.findIn K (.ref (d.C K)) d.v = some none
  xf : XfC K (d.C K)
  cl : PySem.W.findIn K (.ref (d.C K)) "__class__" = some (some (.builtin "object.__class__"))
  ob : PySem.W.mroIn K (d.C K) (.type "object") = some true
theorem fnC_ok {K : PySem.W.Frag} {f : Addr} {name qual : Str} {params : Arguments} {body : List Stmt} {scope : Scope} (e : fnC K f = (some (name, qual, params, FuncBody.stmts body, scope, mainGlobals, [("__class__" : Str)], builtinsNs, Value.none) : FnC)) (hc : codIn K f qual = true) :
    PySem.W.codeIn K (.ref (codA K f)) qual = true ∧ ∃ (oc : Value) (od : Option Addr) (kV doc pm ct : Value) (an : Option Addr) (osl : Array (Option Value)), K.lookup f = some ⟨oc, od, .func (PySem.W.fnX name qual params body scope [("__class__", cloOf K f)] .none kV doc pm an (.ref (codA K f)) ct), osl⟩ := by
  unfold fnC at e
  unfold codIn at hc
  unfold codA cloOf
  cases q : K.lookup f with
  | none => rw [q] at e; cases e
  | some o =>
    obtain ⟨oc, od, dt, osl⟩ := o
    rw [q] at e hc
    cases dt with
    | func fd =>
      obtain ⟨n1, n2, n3, n4, n5, n6, n7, n8, n9, n10, n11, n12, n13, n14, n15⟩ := fd
      have e2 : (some (n1, n2, n3, n4, n5, n6, n7.map (·.1), n15, n8) : FnC) = some (name, qual, params, FuncBody.stmts body, scope, mainGlobals, [("__class__" : Str)], builtinsNs, Value.none) := e
      simp only [Option.some.injEq, Prod.mk.injEq] at e2
      obtain ⟨h1, h2, h3, h4, h5, h6, h7, h8, h9⟩ := e2
      subst h1 h2 h3 h4 h5 h6 h8 h9
      have hc2 : PySem.W.codeIn K n13 n2 = true := hc
      obtain ⟨c, ec⟩ := He.codeIn_ref hc2
      subst ec
      cases n7 with
      | nil => cases h7
      | cons p r =>
        cases r with
        | nil =>
          obtain ⟨y, c2⟩ := p
          have ey : y = "__class__" := (List.cons.inj h7).1
          subst ey
          exact ⟨hc2, oc, od, n9, n10, n11, n14, n12, osl, rfl⟩
        | cons p2 r2 => cases (List.cons.inj h7).2
    | _ => cases e
theorem ExD.told {K : PySem.W.Frag} {d : ExD} {file : Str} (h : d.ok file K = true) (e : fnC K (d.fI K) = d.val) : ExOk K d file := by
  unfold ExD.ok at h
  obtain ⟨h0, h⟩ := He.ba h
  obtain ⟨h1, h⟩ := He.ba h
  obtain ⟨h2, h⟩ := He.ba h
  obtain ⟨h3, h⟩ := He.ba h
  obtain ⟨h4, h⟩ := He.ba h
  obtain ⟨h5, h⟩ := He.ba h
  obtain ⟨h6, h⟩ := He.ba h
  obtain ⟨h7, h⟩ := He.ba h
  obtain ⟨h8, h⟩ := He.ba h
  obtain ⟨h9, h⟩ := He.ba h
  obtain ⟨h10, h⟩ := He.ba h
  obtain ⟨h11, h⟩ := He.ba h
  obtain ⟨h12, h⟩ := He.ba h
  obtain ⟨h13, h⟩ := He.ba h
  obtain ⟨h14, h⟩ := He.ba h
  obtain ⟨h15, h⟩ := He.ba h
  unfold excB at h
  obtain ⟨h16, h⟩ := He.ba h
  obtain ⟨h17, h18⟩ := He.ba h
  obtain ⟨f1, f2⟩ := fnC_ok e h8
  refine ⟨He.eqO_ok h0, ⟨⟨oexB_ok h1, He.eqO_ok h2, of_decide_eq_true h3, of_decide_eq_true h4, h5⟩, He.eqO_ok h6, of_decide_eq_true h7, f2, f1, ?_, He.eqO_ok h10, of_decide_eq_true h11, ?_, He.eqO_ok h13, He.eqO_ok h14⟩, He.eqO_ok h15, xfB_ok h18, He.eqO_ok h16, of_decide_eq_true h17⟩
  · unfold cellB at h9
    split at h9
    · rename_i c0 d0 v0 s0 ho
      exact ⟨c0, d0, s0, by rw [ho, of_decide_eq_true h9]⟩
    · cases h9
  · unfold fileB at h12
    split at h12
    · rename_i c0 d0 vs0 s0 ho
      split at h12
      · rename_i z tf hz
        exact ⟨c0, d0, vs0, s0, tf, ho, by rw [hz, of_decide_eq_true h12]⟩
      · cases h12
    · cases h12
/-- what isinstance of such an error asks -/
theorem ExOk.exc {K : PySem.W.Frag} {d : ExD} {file : Str} (h : ExOk K d file) (hn : PySem.W.specialIn K (.builtin "object.__class__") "__get__" = some (some (.builtin "getset_descriptor.__get__"))) (ht : PySem.W.takesIn K (.builtin "object.__class__") = some true) : ExcC K (d.C K) :=
  ⟨h.xf.ga, h.xf.gg, h.xf.exC, h.xf.hdC, h.cl, hn, ht, h.ob⟩
/-! ### the Hook -/
abbrev frB (g : Addr → Option Obj) (n : Nat) : PySem.W.Frag := He.frT g (PySem.cStatics :: He.asD g n)
abbrev AlB : Type := He.AlX × List FnC
def obsB (n : Nat) (file : Str) (fa : List He.Fa) (fn : List He.DefD) (xs : List ExD) (tf : List He.Defn) (ex : PySem.W.Frag → Bool) (g : Addr → Option Obj) : AlB :=
  ((He.obsT fa fn [] (frB g n), (ex (frB g n) && xs.all fun d => d.ok file (frB g n)) && He.tabsB g tf (frB g n)), xs.map fun d => fnC (frB g n) (d.fI (frB g n)))
def valB (fn : List He.DefD) (xs : List ExD) (w : World) : AlB := (He.valX fn [] w, xs.map ExD.val)
structure SaysB (file : Str) (fa : List He.Fa) (fn : List He.DefD) (xs : List ExD) (tf : List He.Defn) (ex : PySem.W.Frag → Bool) (w : World) (h : Heap) (K : PySem.W.Frag) : Prop where
  t : He.SaysT fa fn [] w K
  more : ex K = true
  exc : ∀ d ∈ xs, ExOk K d file
  hd : ∀ p ∈ tf, PySem.W.codeHdIn K (He.cT K p).1 (He.cT K p).2 = true
  out : ∀ p ∈ tf, K.lookup (He.cT K p).2 = none
  empty : ∀ p ∈ tf, h.get? (He.cT K p).2 = some { cls := .none, data := .fields #[] }
theorem saysB_of {n : Nat} {file : Str} {fa : List He.Fa} {fn : List He.DefD} {xs : List ExD} {tf : List He.Defn} {ex : PySem.W.Frag → Bool} {w : World} {h : Heap} (e : obsB n file fa fn xs tf ex h.get? = valB fn xs w) : SaysB file fa fn xs tf ex w h (frB h.get? n) := by
  have e1 : He.obsT fa fn [] (frB h.get? n) = He.valT fn [] w := congrArg (fun z : AlB => z.1.1) e
  have e2 : ((ex (frB h.get? n) && xs.all fun d => d.ok file (frB h.get? n)) && He.tabsB h.get? tf (frB h.get? n)) = true := congrArg (fun z : AlB => z.1.2) e
  have e3 : xs.map (fun d => fnC (frB h.get? n) (d.fI (frB h.get? n))) = xs.map ExD.val := congrArg (fun z : AlB => z.2) e
  obtain ⟨h12, h3⟩ := He.ba e2
  obtain ⟨h1, h2⟩ := He.ba h12
  have key : ∀ p ∈ tf, PySem.W.codeHdIn (frB h.get? n) (He.cT (frB h.get? n) p).1 (He.cT (frB h.get? n) p).2 = true ∧ ∃ o, h.get? (He.cT (frB h.get? n) p).2 = some o ∧ He.emptyTab o = true := fun p hp => by
    obtain ⟨h3, h4⟩ := He.ba (List.all_eq_true.mp h3 p hp)
    refine ⟨h3, ?_⟩
    cases q : h.get? (He.cT (frB h.get? n) p).2 with
    | none =>
      rw [q] at h4
      cases h4
    | some o =>
      rw [q] at h4
      exact ⟨o, rfl, h4⟩
  refine ⟨e1, h1, fun d hd => ?_, fun p hp => (key p hp).1, fun p hp => ?_, fun p hp => ?_⟩
  · obtain ⟨i, hi, ei⟩ := List.mem_iff_getElem.mp hd
    have e4 : (xs.map (fun d => fnC (frB h.get? n) (d.fI (frB h.get? n))))[i]? = (xs.map ExD.val)[i]? := by rw [e3]
    rw [List.getElem?_map, List.getElem?_map, List.getElem?_eq_getElem hi, ei] at e4
    exact ExD.told (List.all_eq_true.mp h2 d hd) (Option.some.inj e4)
  · obtain ⟨_, o, q, z⟩ := key p hp
    exact He.frT_none q z
  · obtain ⟨_, o, q, z⟩ := key p hp
    rw [q, He.emptyTab_eq z]
def hookB (n : Nat) (file : Str) (fa : List He.Fa) (fn : List He.DefD) (xs : List ExD) (tf : List He.Defn) (ex : PySem.W.Frag → Bool) : PySem.W.Hook where
  α := AlB
  obs := fun s => obsB n file fa fn xs tf ex s.heap.get?
  val := fun w => valB fn xs w
  says := fun w h => ∃ K : PySem.W.Frag, K.In h ∧ SaysB file fa fn xs tf ex w h K
  of := fun _ _ e => ⟨_, He.frT_in, saysB_of e⟩
  keeps := fun _ _ _ ⟨K, hK, c⟩ k => ⟨K, PySem.W.Frag.In.keeps hK k, ⟨c.t, c.more, c.exc, c.hd, c.out, fun p hp => k _ _ (c.empty p hp)⟩⟩
theorem obsB_eq {n : Nat} {file : Str} {fa : List He.Fa} {fn : List He.DefD} {xs : List ExD} {tf : List He.Defn} {ex : PySem.W.Frag → Bool} {g : Addr → Option Obj} {s : Shared} (h : ∀ a, g a = s.heap.get? a) : obsB n file fa fn xs tf ex g = (hookB n file fa fn xs tf ex).obs s := by
  have e : g = s.heap.get? := funext h
  rw [e] <;> rfl
end BX
set_option Elab.async false
set_option linter.all false
set_option maxRecDepth 100000
set_option maxHeartbeats 2000000
/-! BPen: the laws' pen, a dict with cells, at, left; heaps that grow but for pens that are drawn from. -/
namespace BX
open PySem PySem.Spec PyProof.Rows L2 NdefX
def penKvs (c : Addr) (n m : Int) : List (Key × V) := [(.inr "cells", .ref c), (.inr "at", .int n), (.inr "left", .int m)]
def PenO (c : Addr) (n m : Int) : HO := .dK (penKvs c n m)
/-- what is told in H stands in H'; pens may be drawn from k times -/
structure Ex (k : Nat) (H H' : Hp) : Prop where
  st : ∀ b o, H b = some o → (∀ c n m, o ≠ PenO c n m) → H' b = some o
  pn : ∀ b c n m, H b = some (PenO c n m) → 0 ≤ n → 0 ≤ m → ∃ n' m', H' b = some (PenO c n' m') ∧ 0 ≤ n' ∧ n' ≤ n + k ∧ 0 ≤ m'
/-- a pen at a, at most N drawn -/
structure Pen (H : Hp) (a : Addr) (N : Nat) : Prop where
  ex : ∃ (c : Addr) (n m : Int) (ns : List Int), H a = some (PenO c n m) ∧ 0 ≤ n ∧ n ≤ N ∧ 0 ≤ m ∧ H c = some (.lst (ns.map V.int)) ∧ ns.length ≤ 63
section
variable {K : PySem.W.Frag} {k j : Nat} {H H' H1 H2 : Hp} {a b p : Addr} {N : Nat} {o : HO} {xs : List V}
theorem np_lst : ∀ c n m, HO.lst xs ≠ PenO c n m := by intro _ _ _ z; cases z
theorem np_tup : ∀ c n m, HO.tup xs ≠ PenO c n m := by intro _ _ _ z; cases z
theorem np_frz {ob u} : ∀ c n m, HO.frz ob u ≠ PenO c n m := by intro _ _ _ z; cases z
theorem np_ins {C dx fs} : ∀ c n m, HO.ins C dx fs ≠ PenO c n m := by intro _ _ _ z; cases z
theorem np_own {x} : ∀ c n m, HO.own x ≠ PenO c n m := by intro _ _ _ z; cases z
theorem np_xd {fs} : ∀ c n m, HO.xd fs ≠ PenO c n m := by intro _ _ _ z; cases z
theorem np_ext {φ} : ∀ c n m, HO.ext φ ≠ PenO c n m := by intro _ _ _ z; cases z
theorem np_nil : ∀ c n m, HO.dK [] ≠ PenO c n m := by intro _ _ _ z; cases z
theorem Ex.refl : Ex k H H := ⟨fun _ _ e _ => e, fun b c n m e h1 h2 => ⟨n, m, e, h1, by omega, h2⟩⟩
theorem Ex.trans (x : Ex k H H1) (y : Ex j H1 H2) : Ex (k + j) H H2 := by
  refine ⟨fun b o e n => y.st b o (x.st b o e n) n, fun b c n m e h1 h2 => ?_⟩
  obtain ⟨n1, m1, e1, a1, a2, a3⟩ := x.pn b c n m e h1 h2
  obtain ⟨n2, m2, e2, b1, b2, b3⟩ := y.pn b c n1 m1 e1 a1 a3
  exact ⟨n2, m2, e2, b1, by omega, b3⟩
theorem Ex.le (x : Ex k H H1) (h : k ≤ j) : Ex j H H1 := ⟨x.st, fun b c n m e h1 h2 => by
  obtain ⟨n1, m1, e1, a1, a2, a3⟩ := x.pn b c n m e h1 h2
  exact ⟨n1, m1, e1, a1, by omega, a3⟩⟩
theorem Ex.t0 (x : Ex k H H1) (y : Ex 0 H1 H2) : Ex k H H2 := x.trans y
theorem Ex.new (h : H p = none) : Ex k H (upd H p o) := ⟨fun b u e _ => by rw [upd_ne (ne_of_none e h)]; exact e, fun b c n m e h1 h2 => ⟨n, m, by rw [upd_ne (ne_of_none e h)]; exact e, h1, by omega, h2⟩⟩
theorem Ex.mut (x : Ex k H H') (h : H p = none) : Ex k H (upd H' p o) := ⟨fun b u e n => by rw [upd_ne (ne_of_none e h)]; exact x.st b u e n, fun b c n m e h1 h2 => by
  obtain ⟨n1, m1, e1, r⟩ := x.pn b c n m e h1 h2
  exact ⟨n1, m1, by rw [upd_ne (ne_of_none e h)]; exact e1, r⟩⟩
theorem Ex.of (x : Evl.Ex H H') : Ex k H H' := ⟨fun b o e _ => x b o e, fun b c n m e h1 h2 => ⟨n, m, x b _ e, h1, by omega, h2⟩⟩
/-- nothing new is taken away: what is free behind is free ahead -/
theorem Ex.back (x : Ex k H H') (hk : ∀ b c n m, H b = some (PenO c n m) → 0 ≤ n ∧ 0 ≤ m) (h : H' p = none) : H p = none := by
  cases e : H p with
  | none => rfl
  | some o =>
    by_cases hp : ∃ c n m, o = PenO c n m
    · obtain ⟨c, n, m, rfl⟩ := hp
      obtain ⟨h1, h2⟩ := hk _ _ _ _ e
      obtain ⟨_, _, e1, _⟩ := x.pn _ _ _ _ e h1 h2
      rw [h] at e1
      cases e1
    · rw [x.st p o e fun c n m z => hp ⟨c, n, m, z⟩] at h
      cases h
theorem Ex.pen {c : Addr} {n m n2 m2 : Int} (h : H a = some (PenO c n m)) (h1 : 0 ≤ n2) (h2 : n2 ≤ n + k) (h3 : 0 ≤ m2) : Ex k H (upd H a (PenO c n2 m2)) := by
  refine ⟨fun b o e z => ?_, fun b c2 i j e i0 j0 => ?_⟩
  · have nb : b ≠ a := fun y => by
      subst y
      rw [h] at e
      cases e
      exact z _ _ _ rfl
    rw [upd_ne nb]; exact e
  · by_cases hb : b = a
    · subst hb
      rw [h] at e
      cases e
      exact ⟨n2, m2, upd_same, h1, h2, h3⟩
    · exact ⟨i, j, by rw [upd_ne hb]; exact e, i0, by omega, j0⟩
theorem Ex.draw {c : Addr} {n m n' m' : Int} (x : Evl.Ex (upd H a (PenO c n m)) H1) (h : H a = some (PenO c n m)) (h1 : 0 ≤ n') (h2 : n' ≤ n + k) (h3 : 0 ≤ m') : Ex k H (upd H1 a (PenO c n' m')) := by
  refine ⟨fun b o e z => ?_, fun b c' i j e i0 j0 => ?_⟩
  · have nb : b ≠ a := fun y => by
      subst y
      rw [h] at e
      cases e
      exact z _ _ _ rfl
    rw [upd_ne nb]
    exact x b o (by rw [upd_ne nb]; exact e)
  · by_cases hb : b = a
    · subst hb
      rw [h] at e
      cases e
      exact ⟨n', m', upd_same, h1, h2, h3⟩
    · exact ⟨i, j, by rw [upd_ne hb]; exact x b _ (by rw [upd_ne hb]; exact e), i0, by omega, j0⟩
theorem Pen.le (x : Pen H a N) (h : N ≤ k) : Pen H a k := by
  obtain ⟨c, n, m, ns, e, h1, h2, h3, h4, h5⟩ := x.ex
  exact ⟨c, n, m, ns, e, h1, by omega, h3, h4, h5⟩
theorem Pen.go (x : Pen H a N) (e : Ex k H H') : Pen H' a (N + k) := by
  obtain ⟨c, n, m, ns, e0, h1, h2, h3, h4, h5⟩ := x.ex
  obtain ⟨n', m', e1, a1, a2, a3⟩ := e.pn _ _ _ _ e0 h1 h3
  exact ⟨c, n', m', ns, e1, a1, by omega, a3, e.st _ _ h4 np_lst, h5⟩
theorem pen_left {c : Addr} {n m : Int} (h : H a = some (PenO c n m)) : DGet H a (.str "left") (some (.int m)) := DGet.k (k := .inr "left") h
theorem pen_at {c : Addr} {n m : Int} (h : H a = some (PenO c n m)) : DGet H a (.str "at") (some (.int n)) := DGet.k (k := .inr "at") h
theorem pen_cells {c : Addr} {n m : Int} (h : H a = some (PenO c n m)) : DGet H a (.str "cells") (some (.ref c)) := DGet.k (k := .inr "cells") h
theorem pen_putl {c : Addr} {n m i : Int} (h : H a = some (PenO c n m)) : DPut H a (.str "left") (.int i) (upd H a (PenO c n i)) := DPut.k (k := .inr "left") h (by show 3 < sizeLine; decide)
theorem pen_puta {c : Addr} {n m i : Int} (h : H a = some (PenO c n m)) : DPut H a (.str "at") (.int i) (upd H a (PenO c i m)) := DPut.k (k := .inr "at") h (by show 3 < sizeLine; decide)
theorem Ex.l (e : Ex k H H') (h : H p = some (.lst xs)) : H' p = some (.lst xs) := e.st _ _ h np_lst
theorem Ex.t (e : Ex k H H') (h : H p = some (.tup xs)) : H' p = some (.tup xs) := e.st _ _ h np_tup
theorem Ex.xd {fs} (e : Ex k H H') (h : H p = some (.xd fs)) : H' p = some (.xd fs) := e.st _ _ h np_xd
theorem Ex.ext {φ} (e : Ex k H H') (h : H p = some (.ext φ)) : H' p = some (.ext φ) := e.st _ _ h np_ext
theorem Ex.ins {C dx fs} (e : Ex k H H') (h : H p = some (.ins C dx fs)) : H' p = some (.ins C dx fs) := e.st _ _ h np_ins
theorem Ex.sl (e : Ex k H H') (h : SqL K H p xs) : SqL K H' p xs := by
  rcases h with (h | ⟨o, h⟩) | h
  · exact .inl (.inl (e.l h))
  · exact .inl (.inr ⟨o, e.st _ _ h np_frz⟩)
  · exact .inr h
theorem Ex.stp (e : Ex k H H') (h : SqT K H p xs) : SqT K H' p xs := by
  rcases h with (h | ⟨o, h⟩) | h
  · exact .inl (.inl (e.t h))
  · exact .inl (.inr ⟨o, e.st _ _ h np_frz⟩)
  · exact .inr h
end
theorem natAbs_lt {i : Int} {b : Nat} (h : 0 ≤ i) (h2 : i < 2 ^ b) : i.natAbs < 2 ^ b := by
  have e : (i.natAbs : Int) = i := Int.natAbs_of_nonneg h
  have e2 : ((2 ^ b : Nat) : Int) = (2 : Int) ^ b := by push_cast; rfl
  omega
theorem atI_get {α : Type} (xs : List α) {i : Int} (h : 0 ≤ i) (h2 : i < xs.length) : ∃ v, xs[i.toNat]? = some v ∧ atI xs i = some v := by
  have hl : i.toNat < xs.length := by omega
  refine ⟨xs[i.toNat], List.getElem?_eq_getElem hl, ?_⟩
  unfold atI ixN
  rw [if_pos h, if_pos h2]
  exact List.getElem?_eq_getElem hl
theorem atI_ints (ns : List Int) {i : Int} (h : 0 ≤ i) (h2 : i < ns.length) : ∃ v, atI (ns.map V.int) i = some (.int v) := by
  obtain ⟨v, e1, e2⟩ := atI_get (ns.map V.int) h (by rw [List.length_map]; exact h2)
  rw [List.getElem?_map] at e1
  cases e3 : ns[i.toNat]? with
  | none => rw [e3] at e1; cases e1
  | some z =>
    rw [e3] at e1
    cases e1
    exact ⟨z, e2⟩
/-! ### tests and values that leave the heap -/
def Tst (tt : TT) (σ : L2.St) (H : Hp) (b : Bool) : Prop := ∀ Q : Bool → Hp → Prop, Q b H → tt σ H Q
def Pe (te : TE) (σ : L2.St) (H : Hp) (v : V) : Prop := ∀ Q : VK, Q v H → te σ H Q
section
variable {σ : L2.St} {H : Hp} {t u : TT} {a b : Bool} {A B : TS} {D : Ends} {te tf : TE} {v : V}
theorem tif (h : Tst t σ H b) (h1 : b = true → A D σ H) (h2 : b = false → B D σ H) : tIfS t A B D σ H := h _ (by
  cases b with
  | true => exact iteT (h1 rfl)
  | false => exact iteF (h2 rfl))
theorem tif_seq {U : TS} (h : Tst t σ H b) (h1 : b = true → A { D with nx := U D } σ H) (h2 : b = false → B { D with nx := U D } σ H) : tSeq (tIfS t A B) U D σ H := tif h h1 h2
theorem tst_and (h1 : Tst t σ H a) (h2 : a = true → Tst u σ H b) : Tst (tAnd t u) σ H (a && b) := fun Q q => h1 _ (by
  cases a with
  | true => exact iteT (h2 rfl Q q)
  | false => exact iteF q)
theorem tst_or (h1 : Tst t σ H a) (h2 : a = false → Tst u σ H b) : Tst (tOr t u) σ H (a || b) := fun Q q => h1 _ (by
  cases a with
  | true => exact iteT q
  | false => exact iteF (h2 rfl Q q))
theorem tst_not (h1 : Tst t σ H a) : Tst (tNot t) σ H (!a) := fun Q q => h1 _ q
theorem tst_pe (h : Pe te σ H (.bl b)) : Tst (tTest te) σ H b := fun Q q => h _ ⟨b, rfl, q⟩
theorem tst_peB (h : Pe te σ H (.bl b)) : Tst (tB te) σ H b := fun Q q => h _ ⟨b, rfl, q⟩
theorem Tst.to (h : Tst t σ H a) (e : a = b) : Tst t σ H b := by rw [← e]; exact h
end
/-! ### promises of the pen's defs -/
/-- _law_pen(script) -/
def spPen (K : PySem.W.Frag) : Sp := fun vs H Q _ => ∃ (a : Addr) (ns : List Int), vs = [.ref a] ∧ SqL K H a (ns.map V.int) ∧ ∀ p H', Ex 0 H H' → Pen H' p 0 → Q (.ref p) H'
/-- _law_draw(pen, many) -/
def spDraw : Sp := fun vs H Q _ => ∃ (a : Addr) (N : Nat) (many : Int), vs = [.ref a, .int many] ∧ 1 ≤ many ∧ many < 2 ^ 9000 ∧ Pen H a N ∧ N ≤ 2 ^ 60 ∧ ∀ d H', 0 ≤ d → d < many → Ex 1 H H' → Q (.int d) H'
/-- _law_pick(pen, some) -/
def spPick (K : PySem.W.Frag) : Sp := fun vs H Q _ => ∃ (a b : Addr) (N : Nat) (xs : List V), vs = [.ref a, .ref b] ∧ Pen H a N ∧ N ≤ 2 ^ 60 ∧ (SqL K H b xs ∨ SqT K H b xs) ∧ 0 < xs.length ∧ xs.length ≤ 100000 ∧ ∀ v H', v ∈ xs → Ex 1 H H' → Q v H'
end BX
set_option Elab.async false
set_option linter.all false
set_option maxRecDepth 100000
set_option maxHeartbeats 2000000
/-! BTxt: what the top leaves, taken by index; a def that is called, in one bundle. -/
namespace BX
open PySem PySem.Spec PyProof.Rows L2 NdefX
/-- a def x of the top with parameters ps that keeps sp -/
structure Cal (P : Program) (w : World) (K : PySem.W.Frag) (mg : Str → Option Value) (base : Heap) (CX : CXT) (k : Nat) (x : Str) (ps : List Str) (sp : Sp) : Prop where
  ex : ∃ (f : Addr) (fd : FuncData), mg x = some (.ref f) ∧ PySem.W.keepIn K (.ref f) = true ∧ Binds K fd ps [] ∧ FnOk P w K mg base CX k f fd ps sp ∧ ∃ oc od osl, K.lookup f = some ⟨oc, od, .func fd, osl⟩
/-- what an error's class is known by -/
structure ExCal (P : Program) (w : World) (K : PySem.W.Frag) (mg : Str → Option Value) (base : Heap) (x v : Str) (C : Addr) : Prop where
  glo : mg x = some (.ref C)
  T : OexC K C
  xf : XfC K C
  exc : ExcC K C
  no : PySem.W.findIn K (.ref C) v = some none
  ex : ∃ (fI : Addr), PySem.W.findIn K (.ref C) "__init__" = some (some (.ref fI)) ∧ PySem.W.typeIn K (.ref fI) = some (.type "function") ∧ (∃ fd, Binds K fd ["self", v] [] ∧ FnOk P w K mg base CX0 1 fI fd ["self", v] (spEx C v)) ∧ ∃ fd, Binds K fd ["self", v] [] ∧ L2H.FnH P w K mg base CX0 1 fI fd ["self", v] (spEx C v)
structure ExCal0 (P : Program) (w : World) (K : PySem.W.Frag) (mg : Str → Option Value) (base : Heap) (x : Str) (C : Addr) : Prop where
  glo : mg x = some (.ref C)
  T : OexC K C
  xf : XfC K C
  exc : ExcC K C
  ex : ∃ (fI : Addr), PySem.W.findIn K (.ref C) "__init__" = some (some (.ref fI)) ∧ PySem.W.typeIn K (.ref fI) = some (.type "function") ∧ (∃ fd, Binds K fd ["self"] [] ∧ FnOk P w K mg base CX0 1 fI fd ["self"] (spEx0 C)) ∧ ∃ fd, Binds K fd ["self"] [] ∧ L2H.FnH P w K mg base CX0 1 fI fd ["self"] (spEx0 C)
section
variable {X : Cx} {CX : CXT} {k : Nat} {C : Addr} {ps : List Str} {sp : Sp} {E : XK} {x v : Str} {p pos : Pos} {e : Expr} {es : List Expr} {t : TA} {te : TE}
theorem pe_cal (F : Cal X.prog X.w X.K X.mg X.base CX k x ps sp) (hr : Room k X.A) (hg : Gl X x) (hx : Passes CX X E) (ha : PA X (e :: es) t) (hdb : (x == ("__debug__" : Str)) = false := by decide)
    (he : starEach (e :: es) X.env = (false, eval e X.env) :: starEach es X.env := by rfl) (hpl : (backTo pos (starEach es X.env)).any (·.1) = false := by rfl) : PE X (.Call (.Name x p) (e :: es) [] pos) (tCall sp [] E t) := by
  obtain ⟨f, fd, hm, hk, hb, G, _⟩ := F.ex
  exact pe_call G hr hg hm hk hb .nil hx ha hdb he hpl
theorem pe_cal0 (F : Cal X.prog X.w X.K X.mg X.base CX k x [] sp) (hr : Room k X.A) (hg : Gl X x) (hx : Passes CX X E) (hdb : (x == ("__debug__" : Str)) = false := by decide) : PE X (.Call (.Name x p) [] [] pos) (tCall sp [] E tNil) := by
  obtain ⟨f, fd, hm, hk, hb, G, _⟩ := F.ex
  exact pe_call0 G hr hg hm hk hb .nil hx hdb
theorem pe_ex (F : ExCal X.prog X.w X.K X.mg X.base x v C) (hr : Room 2 X.A) (hg : Gl X x) (he1 : PE X e te) (hdb : (x == ("__debug__" : Str)) = false := by decide)
    (he : starEach [e] X.env = (false, eval e X.env) :: starEach [] X.env := by rfl) (hpl : (backTo pos (starEach [] X.env)).any (·.1) = false := by rfl) : PE X (.Call (.Name x p) [e] [] pos) (tExv C v te) := by
  obtain ⟨fI, h1, h2, ⟨fd, hb, G⟩, _⟩ := F.ex
  exact pe_exv F.T h1 h2 G hb hr (fun _ _ _ _ _ _ _ h => h.elim) hg F.glo he1 hdb he hpl
theorem pe_ex0 (F : ExCal0 X.prog X.w X.K X.mg X.base x C) (hr : Room 2 X.A) (hg : Gl X x) (hdb : (x == ("__debug__" : Str)) = false := by decide) : PE X (.Call (.Name x p) [] [] pos) (tExv0 C) := by
  obtain ⟨fI, h1, h2, ⟨fd, hb, G⟩, _⟩ := F.ex
  exact pe_exv0 F.T h1 h2 G hb hr (fun _ _ _ _ _ _ _ h => h.elim) hg F.glo hdb
end
/-- the top -/
structure Tp (file : Str) (fa : List He.Fa) (fn : List He.DefD) (xs : List ExD) (tf : List He.Defn) (ex : PySem.W.Frag → Bool) (w : World) (K : PySem.W.Frag) (mg : Str → Option Value) (base : Heap) : Prop where
  kin : K.In base
  ns : base.Ns mainGlobals mg
  c : ∃ h, SaysB file fa fn xs tf ex w h K
section
variable {file : Str} {fa : List He.Fa} {fn : List He.DefD} {xs : List ExD} {tf : List He.Defn} {ex : PySem.W.Frag → Bool} {P : Program} {w : World} {K : PySem.W.Frag} {mg : Str → Option Value} {base : Heap}
theorem Tp.free (T : Tp file fa fn xs tf ex w K mg base) (i : Nat) {x : Str} (h : fa[i]? = some (.free x) := by rfl) : mg x = none := by
  obtain ⟨_, c⟩ := T.c
  exact He.free_ok T.kin T.ns (c.t.d.fact i h)
theorem Tp.glo (T : Tp file fa fn xs tf ex w K mg base) (i : Nat) {x : Str} (h : fa[i]? = some (.glo x) := by rfl) : mg x = some (.ref (He.ga K x)) := by
  obtain ⟨_, c⟩ := T.c
  exact He.glo_ok T.kin T.ns (c.t.d.fact i h)
theorem Tp.more (T : Tp file fa fn xs tf ex w K mg base) : ex K = true := by
  obtain ⟨_, c⟩ := T.c
  exact c.more
theorem Tp.cal {CX : CXT} {N ps : List Str} {k : Nat} {sp : Sp} {x : Str} {d : He.DefD} (T : Tp file fa fn xs tf ex w K mg base) (i j : Nat) (hd : fn[i]? = some d) (hg : fa[j]? = some (.glo x)) (hat : d.at_ = (x, none)) (hdf : d.dfl = []) (hx : d.name = x) (S : FnScope N ps d.scope)
    (hb : ∀ (kV doc pm : Value) (an : Option Addr) (cdv ct : Value) (us : List Value), us.length = ps.length → bindArgs (PySem.W.fnOf d.name d.qual d.params d.body d.scope .none kV doc pm an cdv ct) ⟨us, []⟩ = pure (ps.zip us)) (len : ∀ vs H Q E, sp vs H Q E → vs.length = ps.length)
    (hbody : ∀ (f : Addr) (cdv : Value) (A : Around) (outer : List Env) (s : Shared) (H : Hp) (vs : List V) (Q : VK) (E : XK), Room k (A.deeper (envOfC d.qual d.scope s.heap.objs.size f cdv)) → sp vs H Q E →
      ∃ t, PSs (cxOf CX P w K mg base N d.qual d.scope f cdv A outer s H E) d.body t ∧ t { nx := fun _ H' => Q .non H', rt := Q } (start N vs) H) : Cal P w K mg base CX (k + 1) x ps sp := by
  obtain ⟨_, c⟩ := T.c
  obtain ⟨fd, F⟩ := c.t.d.def_ i hd
  have e : He.fAd K d.at_ = He.ga K x := by rw [hat]; rfl
  have e2 : d.dvs K = [] := by
    unfold He.DefD.dvs
    rw [hdf]
    rfl
  rw [e, e2] at F
  exact ⟨He.ga K x, fd, T.glo j hg, F.kp, F.bindsN hb, F.ok S len fun cdv A outer s H vs Q E hr h => hbody _ cdv A outer s H vs Q E hr h, by
    obtain ⟨oc, od, dV, kV, doc, pm, an, cdv, ct, osl, _, lk, _⟩ := F.ex
    exact ⟨oc, od, osl, lk⟩⟩
/-- the law's own def, for every base -/
theorem law_fd {CX : CXT} {ps : List Str} {k : Nat} {sp : Sp} {x : Str} {f : Addr} {d : He.DefD} {h : Heap} (KX : K.In h) (G : h.Ns mainGlobals mg) (hfa : mg x = some (.ref f)) (c : SaysB file fa fn xs tf ex w h K) (i j : Nat) (hd : fn[i]? = some d) (hg : fa[j]? = some (.glo x)) (hat : d.at_ = (x, none)) (hdf : d.dfl = [])
    (hb : ∀ (kV doc pm : Value) (an : Option Addr) (cdv ct : Value) (us : List Value), us.length = ps.length → bindArgs (PySem.W.fnOf d.name d.qual d.params d.body d.scope .none kV doc pm an cdv ct) ⟨us, []⟩ = pure (ps.zip us))
    (hc : ∀ base : Heap, Tp file fa fn xs tf ex w K mg base → Cal P w K mg base CX k x ps sp) :
    ∃ fd : FuncData, (∀ (s : Shared) (us : List Value), us.length = ps.length → BindsTo s fd ⟨us, []⟩ (ps.zip us)) ∧ ∀ base : Heap, K.In base → base.Ns mainGlobals mg → FnOk P w K mg base CX k f fd ps sp := by
  obtain ⟨fd, F⟩ := c.t.d.def_ i hd
  have e : He.fAd K d.at_ = He.ga K x := by rw [hat]; rfl
  have e2 : d.dvs K = [] := by
    unfold He.DefD.dvs
    rw [hdf]
    rfl
  rw [e, e2] at F
  refine ⟨fd, F.bindsA hb, fun base kb nb => ?_⟩
  obtain ⟨f1, fd1, hm, _, _, G1, oc, od, osl, lk⟩ := (hc base ⟨kb, nb, h, c⟩).ex
  rw [hfa] at hm
  cases hm
  have ef : f = He.ga K x := by
    have z := hfa.symm.trans (He.glo_ok KX G (c.t.d.fact j hg))
    cases z
    rfl
  obtain ⟨oc2, od2, dV, kV, doc, pm, an, cdv, ct, osl2, _, lk2, _⟩ := F.ex
  rw [← ef, lk] at lk2
  cases lk2
  exact G1
theorem fnh_of {CX : CXT} {k : Nat} {f : Addr} {fd : FuncData} {ps : List Str} {sp : Sp} (F : L2H.FnH P w K mg base CX k f fd ps sp) : L2H.FnH P w K mg base CX k f fd ps sp := F
theorem Tp.exc (T : Tp file fa fn xs tf ex w K mg base) (i : Nat) {d : ExD} (hd : xs[i]? = some d) (D : ExDef d.st d.v) (hn : PySem.W.specialIn K (.builtin "object.__class__") "__get__" = some (some (.builtin "getset_descriptor.__get__"))) (ht : PySem.W.takesIn K (.builtin "object.__class__") = some true)
    (hfile : ((P.main.file : Str) == file) = true) (htop : (P.main.scope.names.lookup ("super" : Str)).isSome = false) : ExCal P w K mg base d.x d.v (He.ga K d.x) := by
  obtain ⟨_, c⟩ := T.c
  have q := c.exc d (List.mem_of_getElem? hd)
  exact ⟨PySem.W.mg_of T.kin T.ns q.glo, q.ext.oex, q.xf, q.exc hn ht, q.no, He.ma K (He.ga K d.x) "__init__", q.ext.iC, q.ext.tI, ex_init q.ext D q.no hfile htop, ex_initH q.ext D q.no hfile htop⟩
theorem Tp.exc0 (T : Tp file fa fn xs tf ex w K mg base) (i : Nat) {d : ExD} (hd : xs[i]? = some d) (D : ExDef0 d.st) (hn : PySem.W.specialIn K (.builtin "object.__class__") "__get__" = some (some (.builtin "getset_descriptor.__get__"))) (ht : PySem.W.takesIn K (.builtin "object.__class__") = some true)
    (hfile : ((P.main.file : Str) == file) = true) (htop : (P.main.scope.names.lookup ("super" : Str)).isSome = false) : ExCal0 P w K mg base d.x (He.ga K d.x) := by
  obtain ⟨_, c⟩ := T.c
  have q := c.exc d (List.mem_of_getElem? hd)
  exact ⟨PySem.W.mg_of T.kin T.ns q.glo, q.ext.oex, q.xf, q.exc hn ht, He.ma K (He.ga K d.x) "__init__", q.ext.iC, q.ext.tI, ex_init0 q.ext D hfile htop, ex_init0H q.ext D hfile htop⟩
end
end BX
set_option Elab.async false
set_option linter.all false
set_option maxRecDepth 100000
set_option maxHeartbeats 2000000
/-! BDat: data in a heap, told as PyData; what == says of it. -/
namespace BX
open PySem PySem.Spec PyProof.Rows L2 NdefX
section
variable {K : PySem.W.Frag} {H H' : Hp} {a : Addr}
theorem dpa_ints : ∀ ns : List Int, DpAll K H (ns.map V.int) (ns.map PyData.int)
  | [] => .nil
  | n :: ns => .cons (.int n) (dpa_ints ns)
theorem dp_ints {ns : List Int} (h : SqL K H a (ns.map V.int)) : Dp K H (.ref a) (.list (ns.map PyData.int)) := .lst h (dpa_ints ns)
theorem eqv_ints (ns ms : List Int) : PyData.eqv (.list (ns.map PyData.int)) (.list (ms.map PyData.int)) = decide (ns = ms) := by
  show PyData.eqvAll _ _ = _
  exact PySem.W.ked_eqvAll ns ms
theorem shaped_ints (ns : List Int) : SeqAt.shaped (.list (ns.map PyData.int)) = true := PySem.W.shaped_ints ns
theorem canLay_bls : ∀ ns : List Bool, PyData.canLayAll0 (ns.map PyData.bool) = true
  | [] => by simp [PyData.canLayAll0]
  | n :: r => by simp [PyData.canLayAll0, PyData.canLay0, canLay_bls r]
theorem depth_bls : ∀ ns : List Bool, PyData.depthAll (ns.map PyData.bool) ≤ 1
  | [] => by simp [PyData.depthAll]
  | n :: r => by
    have := depth_bls r
    simp only [List.map_cons, PyData.depthAll, PyData.depth]
    omega
theorem shaped_bls (ns : List Bool) : SeqAt.shaped (.list (ns.map PyData.bool)) = true := by
  have h1 := depth_bls ns
  have h2 : PyData.depth (.list (ns.map PyData.bool)) ≤ 64 := by simp only [PyData.depth]; omega
  show (PyData.canLay0 (.list (ns.map PyData.bool)) && decide (PyData.depth (.list (ns.map PyData.bool)) ≤ 64)) = true
  rw [Bool.and_eq_true]
  exact ⟨by simp only [PyData.canLay0]; exact canLay_bls ns, decide_eq_true h2⟩
theorem plain_bls : ∀ ns : List Bool, PyData.plainAll (ns.map PyData.bool) = true
  | [] => rfl
  | n :: r => by simp [PyData.plainAll, PyData.plain, plain_bls r]
theorem dpa_bls : ∀ ns : List Bool, DpAll K H (ns.map V.bl) (ns.map PyData.bool)
  | [] => .nil
  | n :: ns => .cons (.bl n) (dpa_bls ns)
theorem dpa_strs : ∀ ns : List Str, DpAll K H (ns.map V.str) (ns.map PyData.str)
  | [] => .nil
  | n :: ns => .cons (.str n) (dpa_strs ns)
mutual
theorem dp_ex {k : Nat} (e : Ex k H H') : ∀ (d : PyData) (v : V), Dp K H v d → Dp K H' v d
  | .none, _, h => by cases h; exact .non
  | .bool b, _, h => by cases h; exact .bl b
  | .int i, _, h => by cases h; exact .int i
  | .str x, _, h => by cases h; exact .str x
  | .list ds, _, h => by
    cases h with
    | lst hs ha => exact .lst (e.sl hs) (dpa_ex e ds _ ha)
  | .tuple ds, _, h => by
    cases h with
    | tup hs ha => exact .tup (e.stp hs) (dpa_ex e ds _ ha)
  | .dict _, _, h => by cases h
theorem dpa_ex {k : Nat} (e : Ex k H H') : ∀ (ds : List PyData) (vs : List V), DpAll K H vs ds → DpAll K H' vs ds
  | [], _, h => by cases h; exact .nil
  | d :: ds, _, h => by
    cases h with
    | cons h1 h2 => exact .cons (dp_ex e d _ h1) (dpa_ex e ds _ h2)
end
end
end BX
set_option Elab.async false
set_option linter.all false
set_option maxRecDepth 100000
set_option maxHeartbeats 0
namespace B0
open PySem PySem.Spec PyProof.Rows L2
def names : List Str := ["BadText", "BadName", "NoStreet", "NoHook", "BadFlag", "BadNumber", "BadWalk", "NotHung", "TooMany", "BadLetter", "Unlike", "BadPrice", "Lost", "BadForm", "NothingToUndo"]
def top (i : Nat) : Stmt := PySem.Challenge.pw_bunting_k00_errors_made_from_their_field.main.body.getD i (.Pass ⟨0, 0, 0, 0⟩)
abbrev s__law_pen : Stmt := top 18
abbrev s__law_draw : Stmt := top 19
abbrev s__law_pick : Stmt := top 20
abbrev s__law_made : Stmt := top 21
abbrev s__law_made_late : Stmt := top 22
abbrev s__law_kinds : Stmt := top 23
abbrev s__law_worth : Stmt := top 24
abbrev s_law : Stmt := top 25
abbrev s_BadText : Stmt := inClass (top 2) 0
abbrev s_BadName : Stmt := inClass (top 3) 0
abbrev s_NoStreet : Stmt := inClass (top 4) 0
abbrev s_NoHook : Stmt := inClass (top 5) 0
abbrev s_BadFlag : Stmt := inClass (top 6) 0
abbrev s_BadNumber : Stmt := inClass (top 7) 0
abbrev s_BadWalk : Stmt := inClass (top 8) 0
abbrev s_NotHung : Stmt := inClass (top 9) 0
abbrev s_TooMany : Stmt := inClass (top 10) 0
abbrev s_NothingToUndo : Stmt := inClass (top 11) 0
abbrev s_BadForm : Stmt := inClass (top 12) 0
abbrev s_BadLetter : Stmt := inClass (top 13) 0
abbrev s_Unlike : Stmt := inClass (top 14) 0
abbrev s_BadPrice : Stmt := inClass (top 15) 0
abbrev s_Lost : Stmt := inClass (top 16) 0
def fn : List He.DefD := [⟨("_law_pen", none), "_law_pen", "_law_pen", defArgs s__law_pen, defBody s__law_pen, defScope s__law_pen, [], []⟩,
  ⟨("_law_draw", none), "_law_draw", "_law_draw", defArgs s__law_draw, defBody s__law_draw, defScope s__law_draw, [], []⟩,
  ⟨("_law_pick", none), "_law_pick", "_law_pick", defArgs s__law_pick, defBody s__law_pick, defScope s__law_pick, [], []⟩,
  ⟨("_law_made", none), "_law_made", "_law_made", defArgs s__law_made, defBody s__law_made, defScope s__law_made, [], []⟩,
  ⟨("_law_made_late", none), "_law_made_late", "_law_made_late", defArgs s__law_made_late, defBody s__law_made_late, defScope s__law_made_late, [], []⟩,
  ⟨("_law_kinds", none), "_law_kinds", "_law_kinds", defArgs s__law_kinds, defBody s__law_kinds, defScope s__law_kinds, [], []⟩,
  ⟨("_law_worth", none), "_law_worth", "_law_worth", defArgs s__law_worth, defBody s__law_worth, defScope s__law_worth, [], []⟩,
  ⟨("law", none), "law", "law", defArgs s_law, defBody s_law, defScope s_law, [], []⟩]
def fa : List He.Fa := [.glo "_law_pen", .glo "_law_draw", .glo "_law_pick", .glo "_law_made", .glo "_law_made_late", .glo "_law_kinds", .glo "_law_worth", .glo "law", .glo "BuntingError", .free "len", .free "int", .free "list", .free "range", .free "isinstance", .free "ValueError"]
def xs : List BX.ExD := [⟨"BadText", "line", "BadText.__init__", s_BadText⟩, ⟨"BadName", "name", "BadName.__init__", s_BadName⟩, ⟨"NoStreet", "name", "NoStreet.__init__", s_NoStreet⟩, ⟨"NoHook", "name", "NoHook.__init__", s_NoHook⟩, ⟨"BadFlag", "index", "BadFlag.__init__", s_BadFlag⟩, ⟨"BadNumber", "number", "BadNumber.__init__", s_BadNumber⟩, ⟨"BadWalk", "index", "BadWalk.__init__", s_BadWalk⟩, ⟨"NotHung", "walk", "NotHung.__init__", s_NotHung⟩, ⟨"TooMany", "most", "TooMany.__init__", s_TooMany⟩, ⟨"NothingToUndo", "", "NothingToUndo.__init__", s_NothingToUndo⟩, ⟨"BadForm", "", "BadForm.__init__", s_BadForm⟩, ⟨"BadLetter", "letter", "BadLetter.__init__", s_BadLetter⟩, ⟨"Unlike", "index", "Unlike.__init__", s_Unlike⟩, ⟨"BadPrice", "index", "BadPrice.__init__", s_BadPrice⟩, ⟨"Lost", "name", "Lost.__init__", s_Lost⟩]
def tf : List He.Defn := []
def ex : PySem.W.Frag → Bool := fun K => He.eqO (PySem.W.specialIn K (.builtin "object.__class__") "__get__") (some (some (.builtin "getset_descriptor.__get__"))) && (decide (PySem.W.takesIn K (.builtin "object.__class__") = some true) && (names.all (fun x => names.all fun y => decide (PySem.W.kitOne K (.ref (He.ga K x)) (.ref (He.ga K y)) = some (decide (y = x)))) && names.all fun x => decide (PySem.W.kitOne K (.ref (He.ga K x)) (.ref (He.ga K "BuntingError")) = some true) && decide (PySem.W.kitOne K (.ref (He.ga K x)) (.type "ValueError") = some true)))
abbrev R : PySem.W.OpenRow := PySem.W.OpenLaw.row PySem.Challenge.rw_bunting_k00_errors_made_from_their_field
def ob (s : PySem.W.SharedT) : BX.AlB := BX.obsB 4 "/claim/cut.py" fa fn xs tf ex (HandSHeadRun.getT s)
abbrev hk : PySem.W.Hook := BX.hookB 4 "/claim/cut.py" fa fn xs tf ex
theorem ob_eq (s : PySem.W.SharedT) : ob s = hk.obs s.abs := BX.obsB_eq (HandSHeadRun.getT_eq s)
def loose : List PySem.Str := ["BuntingError", "BadText", "BadName", "NoStreet", "NoHook", "BadFlag", "BadNumber", "BadWalk", "NotHung", "TooMany", "NothingToUndo", "BadForm", "BadLetter", "Unlike", "BadPrice", "Lost", "_law_pen", "_law_draw", "_law_pick", "_law_made", "_law_made_late", "_law_kinds", "_law_worth"]
abbrev TP := BX.Tp "/claim/cut.py" fa fn xs tf ex
theorem run (w : World) : HandSHeadRun.RunEq R (PySem.W.view R.prog [25]) hk ob 8000 loose w := by
  intro os
  kernel_rfl
theorem sc__law_pen : FnScope ["_law_script"] ["_law_script"] (defScope s__law_pen) := ⟨rfl, rfl, rfl, by decide +kernel, rfl, by decide +kernel, by decide +kernel⟩
theorem ok__law_pen {P : Program} {w : World} {K : PySem.W.Frag} {mg : Str → Option Value} {base : Heap} (T : TP w K mg base) : BX.Cal P w K mg base CX0 1 "_law_pen" ["_law_script"] (BX.spPen K) := by
  have m_list : mg "list" = none := T.free 11
  refine T.cal 0 0 rfl rfl rfl rfl rfl sc__law_pen (fun _ _ _ _ _ _ us hl => match us, hl with | [_], _ => rfl) (fun vs H Q E h => by obtain ⟨a,ns,rfl,hS,hQ⟩ := h; rfl) (fun f cdv A outer s H vs Q E hr h => ⟨_, PSs.nox ((pss_one (ps_ret (pe_disp (pps_cons pe_str (pe_callTy call_list_of (by rfl) m_list (by decide +kernel) (pa_cons (pe_slice sl_list (pv 0) po_none (po_some pe_int)) pa_nil)) (pps_cons pe_str pe_int (pps_cons pe_str pe_int pps_nil))) (by rfl) (by rfl) (fun z => by cases z) (by decide))))), ?_⟩)
  obtain ⟨a, ns, rfl, hS, hQ⟩ := h
  refine fun p hp => ?_
  refine ⟨_, rfl, 63, rfl, a, _, rfl, Evl.ex_l (Evl.Ex.new hp) hS, fun l hl => ⟨l, _, rfl, .inl (Evl.sq_of upd_same), fun c hc => ?_⟩⟩
  have lp : p ≠ l := Ne.symm (fun z => by subst z; rw [upd_same] at hl; cases hl)
  have cl : l ≠ c := fun z => by subst z; rw [upd_same] at hc; cases hc
  have cp : p ≠ c := fun z => by subst z; rw [upd_ne lp, upd_same] at hc; cases hc
  refine ⟨by rw [upd_ne cp, upd_ne lp, upd_same], [(.inr "cells", .ref c), (.inr "at", .int 0), (.inr "left", .int 0)], rfl, by show 3 ≤ 15; decide, ?_⟩
  have hl0 : H l = none := by rw [upd_ne (Ne.symm lp)] at hl; exact hl
  have hc0 : H c = none := by rw [upd_ne (Ne.symm cl), upd_ne (Ne.symm cp)] at hc; exact hc
  have e1 : BX.Ex 0 H (upd (upd (upd (upd H p (.dK [])) l (.lst (cutV (ns.map V.int) none (some 63)))) c (.lst (cutV (ns.map V.int) none (some 63)))) p (BX.PenO c 0 0)) :=
    (((BX.Ex.refl.mut hp).mut hl0).mut hc0).mut hp
  have e2 : cutV (ns.map V.int) none (some 63) = (ns.take 63).map V.int := by
    unfold cutV
    rw [HT.sIx_none, show (some (63 : Int)) = some ((63 : Nat) : Int) from rfl, HT.sIx_nat, List.drop_zero, Nat.sub_zero, ← List.map_take]
    congr 1
    rw [List.take_eq_take_iff, List.length_map]
    omega
  exact hQ p _ e1 ⟨c, 0, 0, ns.take 63, upd_same, Int.le_refl _, Int.le_refl _, Int.le_refl _, by rw [upd_ne (Ne.symm cp), upd_same, e2], by rw [List.length_take]; omega⟩
theorem sc__law_draw : FnScope ["_law_pen_here", "_law_many", "_law_digit", "_law_spot", "_law_cell", "_law_mixed"] ["_law_pen_here", "_law_many"] (defScope s__law_draw) := ⟨rfl, rfl, rfl, by decide +kernel, rfl, by decide +kernel, by decide +kernel⟩
theorem ok__law_draw {P : Program} {w : World} {K : PySem.W.Frag} {mg : Str → Option Value} {base : Heap} (T : TP w K mg base) : BX.Cal P w K mg base CX0 1 "_law_draw" ["_law_pen_here", "_law_many"] BX.spDraw := by
  have m_int : mg "int" = none := T.free 10
  have m_len : mg "len" = none := T.free 9
  refine T.cal 1 1 rfl rfl rfl rfl rfl sc__law_draw (fun _ _ _ _ _ _ us hl => match us, hl with | [_, _], _ => rfl) (fun vs H Q E h => by obtain ⟨a,N,many,rfl,h1,h2,hP,hN,hQ⟩ := h; rfl) (fun f cdv A outer s H vs Q E hr h => ⟨_, PSs.nox ((pss_cons (ps_if (pt_cmpR op_ge (pe_dget (hu_of hr) (pv 0) pe_str (fun _ _ => rfl)) (pv 1) (nomark _))
          (pss_cons (ps_set (i := 2) sc__law_draw.nd rfl (Or.inl rfl) (pe_op op_mod (pe_callTy call_int1 (by rfl) m_int (by decide +kernel) (pa_cons (pe_dget (hu_of hr) (pv 0) pe_str (fun _ _ => rfl)) pa_nil)) (pv 1)))
          (pss_cons (ps_dput (hu_of hr) (pv 0) pe_str (pe_op op_fdivW (pe_dget (hu_of hr) (pv 0) pe_str (fun _ _ => rfl)) (pv 1)) rfl)
          (pss_one (ps_ret (pv 2))))) pss_nil)
        (pss_cons (ps_set (i := 3) sc__law_draw.nd rfl (Or.inl rfl) (pe_dget (hu_of hr) (pv 0) pe_str (fun _ _ => rfl)))
        (pss_cons (ps_dput (hu_of hr) (pv 0) pe_str (pe_op op_add (pv 3) pe_int) rfl)
        (pss_cons (ps_set (i := 4) sc__law_draw.nd rfl (Or.inl rfl) (pe_op op_add (pe_op op_mul pe_int (pv 3)) pe_int))
        (pss_cons (ps_if (pt_cmpR (op_neD (hr).units) (pe_dget (hu_of hr) (pv 0) pe_str (fun _ _ => rfl)) (pe_lst pa_nil) (nomark _))
          (pss_one (ps_set (i := 4) sc__law_draw.nd rfl (Or.inl rfl) (pe_ix ix_list (pe_dget (hu_of hr) (pv 0) pe_str (fun _ _ => rfl)) (pe_op op_mod (pe_callTy call_int1 (by rfl) m_int (by decide +kernel) (pa_cons (pv 3) pa_nil)) (pe_callB call_len (by rfl) m_len PySem.boot_len (pa_cons (pe_dget (hu_of hr) (pv 0) pe_str (fun _ _ => rfl)) pa_nil))) (fun _ _ => rfl)))) pss_nil)
        (pss_cons (ps_if (PW.pt (pw_and (pt_cmpR op_lt (pv 3) (pe_callB call_len (by rfl) m_len PySem.boot_len (pa_cons (pe_dget (hu_of hr) (pv 0) pe_str (fun _ _ => rfl)) pa_nil)) (nomark _)) (pw_and1 (pt_cmpR op_ge (pv 4) (pe_op op_pow pe_int pe_int) (nomark _)))))
          (pss_cons (ps_dput (hu_of hr) (pv 0) pe_str (pe_op op_fdivW (pe_op op_sub (pv 4) (pe_op op_pow pe_int pe_int)) (pv 1)) rfl)
          (pss_one (ps_ret (pe_op op_mod (pe_callTy call_int1 (by rfl) m_int (by decide +kernel) (pa_cons (pe_op op_sub (pv 4) (pe_op op_pow pe_int pe_int)) pa_nil)) (pv 1))))) pss_nil)
        (pss_cons (ps_set (i := 5) sc__law_draw.nd rfl (Or.inl rfl) (pe_op op_add (pe_op op_add (pe_op op_add (pe_op op_mul (pe_op op_mod (pe_callTy call_int1 (by rfl) m_int (by decide +kernel) (pa_cons (pv 4) pa_nil)) pe_int) pe_int) (pe_op op_mul (pe_op op_mul pe_int (pv 3)) (pv 3))) (pe_op op_mul pe_int (pv 3))) pe_int))
        (pss_cons (ps_set (i := 5) sc__law_draw.nd rfl (Or.inl rfl) (pe_op op_mod (pe_callTy call_int1 (by rfl) m_int (by decide +kernel) (pa_cons (pv 5) pa_nil)) pe_int))
        (pss_cons (ps_set (i := 5) sc__law_draw.nd rfl (Or.inl rfl) (pe_op op_mod (pe_callTy call_int1 (by rfl) m_int (by decide +kernel) (pa_cons (pe_op op_mul (pv 5) (pe_op op_add (pv 5) pe_int)) pa_nil)) pe_int))
        (pss_one (ps_ret (pe_op op_mod (pe_callTy call_int1 (by rfl) m_int (by decide +kernel) (pa_cons (pe_op op_fdivW (pe_op op_mod (pe_callTy call_int1 (by rfl) m_int (by decide +kernel) (pa_cons (pe_op op_mul (pv 5) (pv 5)) pa_nil)) pe_int) pe_int) pa_nil)) (pv 1)))))))))))))), ?_⟩)
  obtain ⟨a, N, many, rfl, h1, h2, hP, hN, hQ⟩ := h
  obtain ⟨c, n, m, ns, ha, hn0, hnN, hm0, hc, hlen⟩ := hP.ex
  have hw : many.natAbs < 2 ^ 9000 := BX.natAbs_lt (by omega) h2
  have hwd : ∀ i : Int, CDivW i many := fun i => wide_div (by omega) hw (by decide) (Nat.le_refl _)
  have md : ∀ i : Int, 0 ≤ i % many ∧ i % many < many := fun i => ⟨Int.emod_nonneg _ (by omega), Int.emod_lt_of_pos _ (by omega)⟩
  refine ⟨_, rfl, a, _, rfl, BX.pen_left ha, _, rfl, m, many, rfl, rfl, _, rfl, ite2 (fun hq => ?_) (fun hq => ?_)⟩
  · refine ⟨_, rfl, a, _, rfl, BX.pen_left ha, .inl ⟨_, rfl, _, rfl, _, _, rfl, rfl, by omega, ?_⟩⟩
    refine ⟨_, rfl, a, _, rfl, BX.pen_left ha, _, rfl, _, _, rfl, rfl, hwd _, _, rfl, a, _, rfl, BX.pen_putl ha, ?_⟩
    exact ⟨_, rfl, hQ _ _ (md m).1 (md m).2 (BX.Ex.pen ha hn0 (by omega) (Int.ediv_nonneg hm0 (by omega)))⟩
  · have na : c ≠ a := ne_of hc ha (BX.np_lst _ _ _)
    refine ⟨_, rfl, a, _, rfl, BX.pen_at ha, ?_⟩
    refine ⟨_, rfl, _, _, rfl, rfl, _, rfl, a, _, rfl, BX.pen_puta ha, ?_⟩
    generalize hH1 : upd H a (BX.PenO c (n + 1) m) = H1
    have ha1 : H1 a = some (BX.PenO c (n + 1) m) := by rw [← hH1, upd_same]
    have hc1 : H1 c = some (.lst (ns.map V.int)) := by rw [← hH1, upd_ne na]; exact hc
    have e1 : BX.Ex 1 H H1 := by rw [← hH1]; exact BX.Ex.pen ha (by omega) (by omega) hm0
    refine ⟨_, rfl, _, _, rfl, rfl, .inl ⟨by decide, by decide⟩, _, _, rfl, rfl, ?_⟩
    refine ⟨_, rfl, a, _, rfl, BX.pen_cells ha1, by show 0 ≤ sizeLine; decide, fun p hp => ?_⟩
    generalize hH2 : upd H1 p (.lst []) = H2
    have ha2 : H2 a = some (BX.PenO c (n + 1) m) := by rw [← hH2, upd_ne (ne_of_none ha1 hp)]; exact ha1
    have hc2 : H2 c = some (.lst (ns.map V.int)) := by rw [← hH2, upd_ne (ne_of_none hc1 hp)]; exact hc1
    have e2 : BX.Ex 1 H H2 := by rw [← hH2]; exact e1.t0 (BX.Ex.new hp)
    have hp2 : H2 p = some (.lst (([] : List Int).map V.int)) := by rw [← hH2, upd_same]; rfl
    refine ⟨_, _, BX.dp_ints (SqL.of hc2), BX.dp_ints (SqL.of hp2), BX.shaped_ints _, BX.shaped_ints _, _, rfl, ?_⟩
    rw [BX.eqv_ints]
    refine ite2 (fun hq2 => ?hA) (fun hq2 => ?hB)
    case' hA =>
      have hne : 0 < ns.length := by cases ns with | nil => exact absurd hq2 (by simp) | cons x y => exact Nat.succ_pos _
      have hne2 : (0 : Int) < ((ns.map V.int).length : Int) := by rw [List.length_map]; omega
      obtain ⟨cell, hcell⟩ := BX.atI_ints ns (i := n % ((ns.map V.int).length : Int)) (Int.emod_nonneg _ (by omega)) (by have := Int.emod_lt_of_pos n hne2; rw [List.length_map] at this ⊢; exact this)
      refine ⟨_, rfl, a, _, rfl, BX.pen_cells ha2, _, rfl, .inl ⟨_, rfl, _, rfl, a, _, rfl, BX.pen_cells ha2, _, _, rfl, .inl ⟨_, SqL.of hc2, rfl⟩, _, _, rfl, rfl, hne2, c, _, _, _, rfl, rfl, SqL.of hc2, hcell, ?_⟩⟩
    case' hB =>
      dsimp only [L2.tNext, L2.gName]
      generalize (43 : Int) * n + 17 = cell
    all_goals
      try dsimp only [L2.tNext, L2.gName]
      refine BX.tif_seq (b := decide (n < ((ns.map V.int).length : Int)) && decide ((10 : Int) ^ Int.toNat 18 ≤ cell)) (BX.tst_and (fun Q q => ⟨_, rfl, _, rfl, a, _, rfl, BX.pen_cells ha2, _, _, rfl, .inl ⟨_, SqL.of hc2, rfl⟩, _, _, rfl, rfl, _, rfl, q⟩)
        fun _ Q q => ⟨_, rfl, _, _, rfl, rfl, ⟨by decide, by decide, by decide⟩, _, _, rfl, rfl, _, rfl, q⟩) (fun hb => ?_) (fun hb => ?_)
      · generalize hk : (10 : Int) ^ Int.toNat 18 = k18 at hb
        rw [Bool.and_eq_true] at hb
        have hq4 := of_decide_eq_true hb.2
        refine ⟨_, rfl, _, _, rfl, rfl, ⟨by decide, by decide, by decide⟩, _, _, rfl, rfl, ?_⟩
        rw [hk]
        refine ⟨_, rfl, _, _, rfl, rfl, hwd _, _, rfl, a, _, rfl, BX.pen_putl ha2, ?_⟩
        refine ⟨_, rfl, _, _, rfl, rfl, ⟨by decide, by decide, by decide⟩, _, _, rfl, rfl, .inl ⟨_, rfl, _, rfl, _, _, rfl, rfl, by omega, ?_⟩⟩
        exact hQ _ _ (md _).1 (md _).2 (e2.t0 (BX.Ex.pen ha2 (by omega) (by omega) (Int.ediv_nonneg (by omega) (by omega))))
      · refine ⟨_, rfl, .inl ⟨_, rfl, _, _, rfl, rfl, by show (0 : Int) < _; decide, _, _, rfl, rfl, .inr ⟨by decide, by decide⟩, ?_⟩⟩
        refine ⟨_, rfl, _, _, rfl, rfl, .inl ⟨by decide, by decide⟩, _, rfl, _, _, rfl, rfl, .inr ⟨by omega, by omega⟩, _, _, rfl, rfl, ?_⟩
        refine ⟨_, rfl, _, _, rfl, rfl, .inl ⟨by decide, by decide⟩, _, _, rfl, rfl, _, _, rfl, rfl, ?_⟩
        generalize cell % 2147483629 * 48271 + 69621 * n * n + 61 * n + 13 = x1
        refine ⟨_, rfl, .inl ⟨_, rfl, _, _, rfl, rfl, by show (0 : Int) < _; decide, ?_⟩⟩
        have x2 := Int.emod_nonneg x1 (b := 2147483647) (by decide)
        have x3 := Int.emod_lt_of_pos x1 (b := 2147483647) (by decide)
        generalize x1 % 2147483647 = y1 at x2 x3
        refine ⟨_, rfl, _, rfl, _, _, rfl, rfl, _, _, rfl, rfl, .inl ⟨by omega, by omega⟩, .inl ⟨_, rfl, _, _, rfl, rfl, by show (0 : Int) < _; decide, ?_⟩⟩
        have y2 := Int.emod_nonneg (y1 * (y1 + 40014)) (b := 2147483587) (by decide)
        have y3 := Int.emod_lt_of_pos (y1 * (y1 + 40014)) (b := 2147483587) (by decide)
        generalize y1 * (y1 + 40014) % 2147483587 = z1 at y2 y3
        refine ⟨_, rfl, _, rfl, _, _, rfl, rfl, .inl ⟨by omega, by omega⟩, .inl ⟨_, rfl, _, _, rfl, rfl, by show (0 : Int) < _; decide, _, _, rfl, rfl, wide_div (b := 8) (by decide) (by decide) (by decide) (by decide), .inl ⟨_, rfl, _, rfl, _, _, rfl, rfl, by omega, ?_⟩⟩⟩
        exact hQ _ _ (md _).1 (md _).2 e2
theorem sc__law_pick : FnScope ["_law_pen_here", "_law_some"] ["_law_pen_here", "_law_some"] (defScope s__law_pick) := ⟨rfl, rfl, rfl, by decide +kernel, rfl, by decide +kernel, by decide +kernel⟩
theorem ok__law_pick {P : Program} {w : World} {K : PySem.W.Frag} {mg : Str → Option Value} {base : Heap} (T : TP w K mg base) (C__law_draw : BX.Cal P w K mg base CX0 1 "_law_draw" ["_law_pen_here", "_law_many"] BX.spDraw) : BX.Cal P w K mg base CX0 2 "_law_pick" ["_law_pen_here", "_law_some"] (BX.spPick K) := by
  have m_len : mg "len" = none := T.free 9
  refine T.cal 2 2 rfl rfl rfl rfl rfl sc__law_pick (fun _ _ _ _ _ _ us hl => match us, hl with | [_, _], _ => rfl) (fun vs H Q E h => by obtain ⟨a,b,N,xs,rfl,hP,hN,hS,hx,hx2,hQ⟩ := h; rfl) (fun f cdv A outer s H vs Q E hr h => ⟨_, PSs.nox ((pss_one (ps_ret (pe_ix ix_seq (pv 1) (BX.pe_cal C__law_draw (hr.mono (by decide)) (by rfl) pass0 (pa_cons (pv 0) (pa_cons (pe_callB call_len (by rfl) m_len PySem.boot_len (pa_cons (pv 1) pa_nil)) pa_nil))) (fun _ _ => rfl))))), ?_⟩)
  obtain ⟨a, b, N, xs, rfl, hP, hN, hS, hx, hx2, hQ⟩ := h
  have h9 : (xs.length : Int) < 2 ^ 9000 := Int.lt_of_le_of_lt (b := 2 ^ 17) (by omega) (Int.pow_lt_pow_of_lt (by decide) (by decide))
  refine ⟨_, rfl, _, rfl, _, rfl, _, _, rfl, hS.imp (fun h => ⟨_, h, rfl⟩) (fun h => ⟨_, h, rfl⟩), a, N, _, rfl, by omega, h9, hP, hN, fun d H' d0 d1 e => ?_⟩
  obtain ⟨v, e1, e2⟩ := BX.atI_get xs d0 d1
  have hv : v ∈ xs := List.mem_of_getElem? e1
  rcases hS with h | h
  · exact .inl ⟨_, _, _, _, rfl, rfl, e.sl h, e2, hQ v H' hv e⟩
  · exact .inr (.inl ⟨_, _, _, _, rfl, rfl, e.stp h, e2, hQ v H' hv e⟩)
/-- data that == tells of -/
def Dat (K : PySem.W.Frag) (H : Hp) (v : V) : Prop := ∃ d, Dp K H v d ∧ SeqAt.shaped d = true ∧ d.plain = true
def spWorth (K : PySem.W.Frag) : Sp := fun vs H Q _ => ∃ (a : Addr) (N : Nat) (k : Int), vs = [.ref a, .int k] ∧ BX.Pen H a N ∧ N ≤ 2 ^ 60 ∧ ∀ v H', BX.Ex 1 H H' → Dat K H' v → Q v H'
/-- the k-th error stands at a -/
def ErrAt (K : PySem.W.Frag) (H : Hp) (a : Addr) (k : Int) : Prop := ∃ (x : Str) (dd : Option Addr), names[k.toNat]? = some x ∧ H a = some (exo a (He.ga K x) dd) ∧ ∀ d, dd = some d → ∃ fs, H d = some (exd d fs)
def spMade (K : PySem.W.Frag) : Sp := fun vs H Q _ => ∃ (k : Int) (v : V), vs = [.int k, v] ∧ 0 ≤ k ∧ k < 15 ∧ ∀ t a H', BX.Ex 0 H H' → H' t = some (.tup [.ref a, v]) → ErrAt K H' a k → Q (.ref t) H'
def spLate (K : PySem.W.Frag) : Sp := fun vs H Q _ => ∃ (k : Int) (v : V), vs = [.int k, v] ∧ 7 ≤ k ∧ k < 15 ∧ ∀ t a H', BX.Ex 0 H H' → H' t = some (.tup [.ref a, v]) → ErrAt K H' a k → Q (.ref t) H'
def spKinds (K : PySem.W.Frag) : Sp := fun vs H Q _ => ∃ (a : Addr) (k : Int), vs = [.ref a] ∧ 0 ≤ k ∧ k < 15 ∧ ErrAt K H a k ∧ ∀ p H', BX.Ex 0 H H' → H' p = some (.lst ((List.range 15).map fun j : Nat => V.bl (decide ((j : Int) = k)))) → Q (.ref p) H'
def spLaw (K : PySem.W.Frag) : Sp := fun vs H Q _ => ∃ (a : Addr) (ns : List Int), vs = [.ref a] ∧ SqL K H a (ns.map V.int) ∧ ∀ H', Q (.bl true) H'
theorem dat_int {K : PySem.W.Frag} {H : Hp} (i : Int) : Dat K H (.int i) := ⟨_, .int i, rfl, rfl⟩
theorem dat_str {K : PySem.W.Frag} {H : Hp} (i : Str) (h : SeqAt.shaped (.str i) = true) : Dat K H (.str i) := ⟨_, .str i, h, rfl⟩
theorem sc__law_worth : FnScope ["_law_pen_here", "_law_k"] ["_law_pen_here", "_law_k"] (defScope s__law_worth) := ⟨rfl, rfl, rfl, by decide +kernel, rfl, by decide +kernel, by decide +kernel⟩
theorem ok__law_worth {P : Program} {w : World} {K : PySem.W.Frag} {mg : Str → Option Value} {base : Heap} (T : TP w K mg base) (C__law_draw : BX.Cal P w K mg base CX0 1 "_law_draw" ["_law_pen_here", "_law_many"] BX.spDraw) (C__law_pick : BX.Cal P w K mg base CX0 2 "_law_pick" ["_law_pen_here", "_law_some"] (BX.spPick K)) : BX.Cal P w K mg base CX0 3 "_law_worth" ["_law_pen_here", "_law_k"] (spWorth K) := by
  refine T.cal 6 6 rfl rfl rfl rfl rfl sc__law_worth (fun _ _ _ _ _ _ us hl => match us, hl with | [_, _], _ => rfl) (fun vs H Q E h => by obtain ⟨a,N,k,rfl,hP,hN,hQ⟩ := h; rfl) (fun f cdv A outer s H vs Q E hr h => ⟨_, PSs.nox ((pss_cons (ps_if (pt_cmpR op_in_seq (pv 1) (pe_tup (pa_cons pe_int (pa_cons pe_int (pa_cons pe_int (pa_cons pe_int pa_nil))))) (by rfl))
          (pss_one (ps_ret (BX.pe_cal C__law_draw (hr.mono (by decide)) (by rfl) pass0 (pa_cons (pv 0) (pa_cons pe_int pa_nil))))) pss_nil)
        (pss_cons (ps_if (pt_cmpR op_in_seq (pv 1) (pe_tup (pa_cons pe_int (pa_cons pe_int pa_nil))) (by rfl))
          (pss_one (ps_ret (pe_op op_add pe_int (BX.pe_cal C__law_draw (hr.mono (by decide)) (by rfl) pass0 (pa_cons (pv 0) (pa_cons pe_int pa_nil)))))) pss_nil)
        (pss_cons (ps_if (pt_cmpR op_eq (pv 1) pe_int (nomark _))
          (pss_one (ps_ret (pe_tup (pa_cons (pe_tup (pa_cons pe_str (pa_cons pe_int pa_nil))) (pa_cons (pe_tup (pa_cons pe_str (pa_cons (pe_un un_neg pe_int) pa_nil))) pa_nil))))) pss_nil)
        (pss_cons (ps_if (pt_cmpR op_eq (pv 1) pe_int (nomark _))
          (pss_one (ps_ret pe_str)) pss_nil)
        (pss_one (ps_ret (BX.pe_cal C__law_pick (hr.mono (by decide)) (by rfl) pass0 (pa_cons (pv 0) (pa_cons (pe_lst (pa_cons pe_non (pa_cons pe_str (pa_cons (pe_un un_neg pe_int) (pa_cons (pe_op op_pow pe_int pe_int) (pa_cons (pe_tup (pa_cons pe_str (pa_cons pe_int pa_nil))) (pa_cons pe_bl pa_nil))))))) pa_nil)))))))))), ?_⟩)
  obtain ⟨a, N, k, rfl, hP, hN, hQ⟩ := h
  have sz : ∀ n : Nat, n ≤ 100 → n ≤ sizeLine := fun n h => Nat.le_trans h (by decide)
  refine ⟨_, rfl, sz _ (by show 4 ≤ 100; decide), fun t ht => ⟨t, _, rfl, .inr (Evl.st_of upd_same), rfl, rfl, _, rfl, ite2 (fun hq => ?_) (fun hq => ?_)⟩⟩
  · refine ⟨_, rfl, a, N, 60, rfl, by decide, by decide, ?_, hN, fun d H' d0 d1 e => ?_⟩
    · exact hP.go (k := 0) (BX.Ex.new ht)
    · exact hQ _ _ ((BX.Ex.new (k := 0) ht).trans e) (dat_int d)
  · refine ⟨_, rfl, sz _ (by show 2 ≤ 100; decide), fun u hu => ⟨u, _, rfl, .inr (Evl.st_of upd_same), rfl, rfl, _, rfl, ite2 (fun hq => ?_) (fun hq => ?_)⟩⟩
    all_goals
      generalize hH2 : upd (upd H t _) u _ = H2
    all_goals
      have e2 : BX.Ex 0 H H2 := by rw [← hH2]; exact (BX.Ex.new (k := 0) ht).trans (BX.Ex.new (k := 0) hu)
    · exact ⟨_, rfl, a, N, 60, rfl, by decide, by decide, hP.go (k := 0) e2, hN, fun d H' d0 d1 e => ⟨_, _, rfl, rfl, hQ _ _ (e2.trans e) (dat_int _)⟩⟩
    · refine ⟨_, rfl, rfl, _, rfl, ite2 (fun hq7 => ?_) (fun hq7 => ?_)⟩
      · refine ⟨sz _ (by show 2 ≤ 100; decide), fun p1 h1 => ⟨_, rfl, sz _ (by show 2 ≤ 100; decide), fun p2 h2 => ⟨sz _ (by show 2 ≤ 100; decide), fun p3 h3 => ?_⟩⟩⟩
        have n1 : p1 ≠ p2 := ne_of_none upd_same h2
        have n2 : p2 ≠ p3 := ne_of_none upd_same h3
        have n3 : p1 ≠ p3 := ne_of_none (by rw [upd_ne n1, upd_same]) h3
        refine hQ _ _ (((e2.t0 (BX.Ex.new h1)).t0 (BX.Ex.new h2)).t0 (BX.Ex.new h3) |>.le (by decide)) ⟨_, .tup (Evl.st_of upd_same) (.cons (.tup (Evl.st_of (by rw [upd_ne n3, upd_ne n1, upd_same])) (.cons (.str _) (.cons (.int _) .nil))) (.cons (.tup (Evl.st_of (by rw [upd_ne n2, upd_same])) (.cons (.str _) (.cons (.int _) .nil))) .nil)), by decide +kernel, by decide +kernel⟩
      · refine ⟨_, rfl, rfl, _, rfl, ite2 (fun hq8 => ?_) (fun hq8 => ?_)⟩
        · exact hQ _ _ (e2.le (by decide)) (dat_str _ (by decide +kernel))
        · refine ⟨_, rfl, _, rfl, _, _, rfl, rfl, ⟨by decide, by decide, by decide⟩, sz _ (by show 2 ≤ 100; decide), fun p1 h1 => ⟨sz _ (by show 6 ≤ 100; decide), fun p2 h2 => ?_⟩⟩
          have n1 : p1 ≠ p2 := ne_of_none upd_same h2
          refine ⟨a, p2, N, _, rfl, hP.go (k := 0) ((e2.t0 (BX.Ex.new h1)).t0 (BX.Ex.new h2)), hN, .inl (Evl.sq_of upd_same), by show 0 < 6; decide, by show 6 ≤ 100000; decide, fun v H' hv e => ?_⟩
          have ee := ((e2.t0 (BX.Ex.new h1)).t0 (BX.Ex.new h2)).trans e
          refine hQ _ _ ee ?_
          simp only [List.mem_cons, List.not_mem_nil, or_false] at hv
          rcases hv with rfl | rfl | rfl | rfl | rfl | rfl
          · exact ⟨_, .non, rfl, rfl⟩
          · exact dat_str _ (by decide +kernel)
          · exact dat_int _
          · exact dat_int _
          · exact ⟨_, .tup (e.stp (Evl.st_of (by rw [upd_ne n1, upd_same]))) (.cons (.str _) (.cons (.int _) .nil)), by decide +kernel, by decide +kernel⟩
          · exact ⟨_, .bl true, rfl, rfl⟩
theorem made_fin {K : PySem.W.Frag} {H : Hp} {Q : VK} {k : Int} {v : V} {x fld : Str} {a d t : Addr} (hx : names[k.toNat]? = some x) (hQ : ∀ t a H', BX.Ex 0 H H' → H' t = some (.tup [.ref a, v]) → ErrAt K H' a k → Q (.ref t) H')
    (ha : H a = none) (hd : H d = none) (ne : d ≠ a) (ht : upd (upd H d (exd d [(fld, v)])) a (exo a (He.ga K x) (some d)) t = none) : Q (.ref t) (upd (upd (upd H d (exd d [(fld, v)])) a (exo a (He.ga K x) (some d))) t (.tup [.ref a, v])) := by
  have n1 : a ≠ t := ne_of_none upd_same ht
  have n2 : d ≠ t := ne_of_none (by rw [upd_ne ne, upd_same]) ht
  have n3 : H t = none := by rw [upd_ne (Ne.symm n1), upd_ne (Ne.symm n2)] at ht; exact ht
  refine hQ t a _ (((BX.Ex.refl.mut hd).mut ha).mut n3) upd_same ⟨x, some d, hx, by rw [upd_ne n1, upd_same], fun d2 e => ⟨_, by cases e; rw [upd_ne n2, upd_ne ne, upd_same]⟩⟩
theorem made_fin0 {K : PySem.W.Frag} {H : Hp} {Q : VK} {k : Int} {v : V} {x : Str} {a t : Addr} (hx : names[k.toNat]? = some x) (hQ : ∀ t a H', BX.Ex 0 H H' → H' t = some (.tup [.ref a, v]) → ErrAt K H' a k → Q (.ref t) H')
    (ha : H a = none) (ht : upd H a (exo a (He.ga K x) none) t = none) : Q (.ref t) (upd (upd H a (exo a (He.ga K x) none)) t (.tup [.ref a, v])) := by
  have n1 : a ≠ t := ne_of_none upd_same ht
  have n3 : H t = none := by rw [upd_ne (Ne.symm n1)] at ht; exact ht
  exact hQ t a _ ((BX.Ex.refl.mut ha).mut n3) upd_same ⟨x, none, hx, by rw [upd_ne n1, upd_same], fun d2 e => by cases e⟩
theorem sc__law_made_late : FnScope ["_law_k", "_law_worth_here", "_law_e"] ["_law_k", "_law_worth_here"] (defScope s__law_made_late) := ⟨rfl, rfl, rfl, by decide +kernel, rfl, by decide +kernel, by decide +kernel⟩
theorem ok__law_made_late {P : Program} {w : World} {K : PySem.W.Frag} {mg : Str → Option Value} {base : Heap} (T : TP w K mg base) (X_BadForm : BX.ExCal0 P w K mg base "BadForm" (He.ga K "BadForm")) (X_BadLetter : BX.ExCal P w K mg base "BadLetter" "letter" (He.ga K "BadLetter")) (X_BadPrice : BX.ExCal P w K mg base "BadPrice" "index" (He.ga K "BadPrice")) (X_Lost : BX.ExCal P w K mg base "Lost" "name" (He.ga K "Lost")) (X_NotHung : BX.ExCal P w K mg base "NotHung" "walk" (He.ga K "NotHung")) (X_NothingToUndo : BX.ExCal0 P w K mg base "NothingToUndo" (He.ga K "NothingToUndo")) (X_TooMany : BX.ExCal P w K mg base "TooMany" "most" (He.ga K "TooMany")) (X_Unlike : BX.ExCal P w K mg base "Unlike" "index" (He.ga K "Unlike")) : BX.Cal P w K mg base CX0 3 "_law_made_late" ["_law_k", "_law_worth_here"] (spLate K) := by
  have g_BadForm : mg "BadForm" = some (.ref (He.ga K "BadForm")) := X_BadForm.glo
  have g_BadLetter : mg "BadLetter" = some (.ref (He.ga K "BadLetter")) := X_BadLetter.glo
  have g_BadPrice : mg "BadPrice" = some (.ref (He.ga K "BadPrice")) := X_BadPrice.glo
  have g_Lost : mg "Lost" = some (.ref (He.ga K "Lost")) := X_Lost.glo
  have g_NotHung : mg "NotHung" = some (.ref (He.ga K "NotHung")) := X_NotHung.glo
  have g_NothingToUndo : mg "NothingToUndo" = some (.ref (He.ga K "NothingToUndo")) := X_NothingToUndo.glo
  have g_TooMany : mg "TooMany" = some (.ref (He.ga K "TooMany")) := X_TooMany.glo
  have g_Unlike : mg "Unlike" = some (.ref (He.ga K "Unlike")) := X_Unlike.glo
  refine T.cal 4 4 rfl rfl rfl rfl rfl sc__law_made_late (fun _ _ _ _ _ _ us hl => match us, hl with | [_, _], _ => rfl) (fun vs H Q E h => by obtain ⟨k,v,rfl,h1,h2,hQ⟩ := h; rfl) (fun f cdv A outer s H vs Q E hr h => ⟨_, PSs.nox ((pss_cons (ps_if (pt_cmpR op_eq (pv 0) pe_int (nomark _))
          (pss_cons (ps_set (i := 2) sc__law_made_late.nd rfl (Or.inl rfl) (BX.pe_ex X_NotHung (hr.mono (by decide)) (by rfl) (pv 1)))
          (pss_one (ps_ret (pe_tup (pa_cons (pv 2) (pa_cons (BX.pe_exf (pv 2)) pa_nil)))))) pss_nil)
        (pss_cons (ps_if (pt_cmpR op_eq (pv 0) pe_int (nomark _))
          (pss_cons (ps_set (i := 2) sc__law_made_late.nd rfl (Or.inl rfl) (BX.pe_ex X_TooMany (hr.mono (by decide)) (by rfl) (pv 1)))
          (pss_one (ps_ret (pe_tup (pa_cons (pv 2) (pa_cons (BX.pe_exf (pv 2)) pa_nil)))))) pss_nil)
        (pss_cons (ps_if (pt_cmpR op_eq (pv 0) pe_int (nomark _))
          (pss_cons (ps_set (i := 2) sc__law_made_late.nd rfl (Or.inl rfl) (BX.pe_ex X_BadLetter (hr.mono (by decide)) (by rfl) (pv 1)))
          (pss_one (ps_ret (pe_tup (pa_cons (pv 2) (pa_cons (BX.pe_exf (pv 2)) pa_nil)))))) pss_nil)
        (pss_cons (ps_if (pt_cmpR op_eq (pv 0) pe_int (nomark _))
          (pss_cons (ps_set (i := 2) sc__law_made_late.nd rfl (Or.inl rfl) (BX.pe_ex X_Unlike (hr.mono (by decide)) (by rfl) (pv 1)))
          (pss_one (ps_ret (pe_tup (pa_cons (pv 2) (pa_cons (BX.pe_exf (pv 2)) pa_nil)))))) pss_nil)
        (pss_cons (ps_if (pt_cmpR op_eq (pv 0) pe_int (nomark _))
          (pss_cons (ps_set (i := 2) sc__law_made_late.nd rfl (Or.inl rfl) (BX.pe_ex X_BadPrice (hr.mono (by decide)) (by rfl) (pv 1)))
          (pss_one (ps_ret (pe_tup (pa_cons (pv 2) (pa_cons (BX.pe_exf (pv 2)) pa_nil)))))) pss_nil)
        (pss_cons (ps_if (pt_cmpR op_eq (pv 0) pe_int (nomark _))
          (pss_cons (ps_set (i := 2) sc__law_made_late.nd rfl (Or.inl rfl) (BX.pe_ex X_Lost (hr.mono (by decide)) (by rfl) (pv 1)))
          (pss_one (ps_ret (pe_tup (pa_cons (pv 2) (pa_cons (BX.pe_exf (pv 2)) pa_nil)))))) pss_nil)
        (pss_one (ps_ret (pe_tup (pa_cons (pe_ifExp (pt_cmpR op_eq (pv 0) pe_int (nomark _)) (BX.pe_ex0 X_BadForm (hr.mono (by decide)) (by rfl)) (BX.pe_ex0 X_NothingToUndo (hr.mono (by decide)) (by rfl))) (pa_cons (pv 1) pa_nil)))))))))))), ?_⟩)
  obtain ⟨k, v, rfl, h1, h2, hQ⟩ := h
  refine ⟨_, rfl, rfl, _, rfl, ite2 (fun hq => by
    obtain rfl : k = 7 := V.int.inj (of_decide_eq_true hq)
    exact ⟨_, rfl, fun a d ha hd ne => ⟨_, rfl, _, rfl, a, _, d, _, _, rfl, X_NotHung.xf, X_NotHung.no, upd_same, by rw [upd_ne ne, upd_same], rfl, by show 2 ≤ sizeLine; decide, fun t ht => made_fin (x := "NotHung") rfl hQ ha hd ne ht⟩⟩) (fun hq7 => ?_)⟩
  refine ⟨_, rfl, rfl, _, rfl, ite2 (fun hq => by
    obtain rfl : k = 8 := V.int.inj (of_decide_eq_true hq)
    exact ⟨_, rfl, fun a d ha hd ne => ⟨_, rfl, _, rfl, a, _, d, _, _, rfl, X_TooMany.xf, X_TooMany.no, upd_same, by rw [upd_ne ne, upd_same], rfl, by show 2 ≤ sizeLine; decide, fun t ht => made_fin (x := "TooMany") rfl hQ ha hd ne ht⟩⟩) (fun hq8 => ?_)⟩
  refine ⟨_, rfl, rfl, _, rfl, ite2 (fun hq => by
    obtain rfl : k = 9 := V.int.inj (of_decide_eq_true hq)
    exact ⟨_, rfl, fun a d ha hd ne => ⟨_, rfl, _, rfl, a, _, d, _, _, rfl, X_BadLetter.xf, X_BadLetter.no, upd_same, by rw [upd_ne ne, upd_same], rfl, by show 2 ≤ sizeLine; decide, fun t ht => made_fin (x := "BadLetter") rfl hQ ha hd ne ht⟩⟩) (fun hq9 => ?_)⟩
  refine ⟨_, rfl, rfl, _, rfl, ite2 (fun hq => by
    obtain rfl : k = 10 := V.int.inj (of_decide_eq_true hq)
    exact ⟨_, rfl, fun a d ha hd ne => ⟨_, rfl, _, rfl, a, _, d, _, _, rfl, X_Unlike.xf, X_Unlike.no, upd_same, by rw [upd_ne ne, upd_same], rfl, by show 2 ≤ sizeLine; decide, fun t ht => made_fin (x := "Unlike") rfl hQ ha hd ne ht⟩⟩) (fun hq10 => ?_)⟩
  refine ⟨_, rfl, rfl, _, rfl, ite2 (fun hq => by
    obtain rfl : k = 11 := V.int.inj (of_decide_eq_true hq)
    exact ⟨_, rfl, fun a d ha hd ne => ⟨_, rfl, _, rfl, a, _, d, _, _, rfl, X_BadPrice.xf, X_BadPrice.no, upd_same, by rw [upd_ne ne, upd_same], rfl, by show 2 ≤ sizeLine; decide, fun t ht => made_fin (x := "BadPrice") rfl hQ ha hd ne ht⟩⟩) (fun hq11 => ?_)⟩
  refine ⟨_, rfl, rfl, _, rfl, ite2 (fun hq => by
    obtain rfl : k = 12 := V.int.inj (of_decide_eq_true hq)
    exact ⟨_, rfl, fun a d ha hd ne => ⟨_, rfl, _, rfl, a, _, d, _, _, rfl, X_Lost.xf, X_Lost.no, upd_same, by rw [upd_ne ne, upd_same], rfl, by show 2 ≤ sizeLine; decide, fun t ht => made_fin (x := "Lost") rfl hQ ha hd ne ht⟩⟩) (fun hq12 => ?_)⟩
  refine ⟨_, rfl, rfl, _, rfl, ite2 (fun hq => ?_) (fun hq => ?_)⟩
  · obtain rfl : k = 13 := V.int.inj (of_decide_eq_true hq)
    exact fun a ha => ⟨_, rfl, by show 2 ≤ sizeLine; decide, fun t ht => made_fin0 (x := "BadForm") rfl hQ ha ht⟩
  · have hk : k = 14 := by
      have e : ∀ i : Int, ¬ decide (V.int k = V.int i) = true → k ≠ i := fun i h z => h (by rw [z]; exact decide_eq_true rfl)
      have := e _ hq7; have := e _ hq8; have := e _ hq9; have := e _ hq10; have := e _ hq11; have := e _ hq12; have := e _ hq
      omega
    subst hk
    exact fun a ha => ⟨_, rfl, by show 2 ≤ sizeLine; decide, fun t ht => made_fin0 (x := "NothingToUndo") rfl hQ ha ht⟩
theorem sc__law_made : FnScope ["_law_k", "_law_worth_here", "_law_e"] ["_law_k", "_law_worth_here"] (defScope s__law_made) := ⟨rfl, rfl, rfl, by decide +kernel, rfl, by decide +kernel, by decide +kernel⟩
theorem ok__law_made {P : Program} {w : World} {K : PySem.W.Frag} {mg : Str → Option Value} {base : Heap} (T : TP w K mg base) (C__law_made_late : BX.Cal P w K mg base CX0 3 "_law_made_late" ["_law_k", "_law_worth_here"] (spLate K)) (X_BadFlag : BX.ExCal P w K mg base "BadFlag" "index" (He.ga K "BadFlag")) (X_BadName : BX.ExCal P w K mg base "BadName" "name" (He.ga K "BadName")) (X_BadNumber : BX.ExCal P w K mg base "BadNumber" "number" (He.ga K "BadNumber")) (X_BadText : BX.ExCal P w K mg base "BadText" "line" (He.ga K "BadText")) (X_BadWalk : BX.ExCal P w K mg base "BadWalk" "index" (He.ga K "BadWalk")) (X_NoHook : BX.ExCal P w K mg base "NoHook" "name" (He.ga K "NoHook")) (X_NoStreet : BX.ExCal P w K mg base "NoStreet" "name" (He.ga K "NoStreet")) : BX.Cal P w K mg base CX0 4 "_law_made" ["_law_k", "_law_worth_here"] (spMade K) := by
  have g_BadFlag : mg "BadFlag" = some (.ref (He.ga K "BadFlag")) := X_BadFlag.glo
  have g_BadName : mg "BadName" = some (.ref (He.ga K "BadName")) := X_BadName.glo
  have g_BadNumber : mg "BadNumber" = some (.ref (He.ga K "BadNumber")) := X_BadNumber.glo
  have g_BadText : mg "BadText" = some (.ref (He.ga K "BadText")) := X_BadText.glo
  have g_BadWalk : mg "BadWalk" = some (.ref (He.ga K "BadWalk")) := X_BadWalk.glo
  have g_NoHook : mg "NoHook" = some (.ref (He.ga K "NoHook")) := X_NoHook.glo
  have g_NoStreet : mg "NoStreet" = some (.ref (He.ga K "NoStreet")) := X_NoStreet.glo
  refine T.cal 3 3 rfl rfl rfl rfl rfl sc__law_made (fun _ _ _ _ _ _ us hl => match us, hl with | [_, _], _ => rfl) (fun vs H Q E h => by obtain ⟨k,v,rfl,h1,h2,hQ⟩ := h; rfl) (fun f cdv A outer s H vs Q E hr h => ⟨_, PSs.nox ((pss_cons (ps_if (pt_cmpR op_eq (pv 0) pe_int (nomark _))
          (pss_cons (ps_set (i := 2) sc__law_made.nd rfl (Or.inl rfl) (BX.pe_ex X_BadText (hr.mono (by decide)) (by rfl) (pv 1)))
          (pss_one (ps_ret (pe_tup (pa_cons (pv 2) (pa_cons (BX.pe_exf (pv 2)) pa_nil)))))) pss_nil)
        (pss_cons (ps_if (pt_cmpR op_eq (pv 0) pe_int (nomark _))
          (pss_cons (ps_set (i := 2) sc__law_made.nd rfl (Or.inl rfl) (BX.pe_ex X_BadName (hr.mono (by decide)) (by rfl) (pv 1)))
          (pss_one (ps_ret (pe_tup (pa_cons (pv 2) (pa_cons (BX.pe_exf (pv 2)) pa_nil)))))) pss_nil)
        (pss_cons (ps_if (pt_cmpR op_eq (pv 0) pe_int (nomark _))
          (pss_cons (ps_set (i := 2) sc__law_made.nd rfl (Or.inl rfl) (BX.pe_ex X_NoStreet (hr.mono (by decide)) (by rfl) (pv 1)))
          (pss_one (ps_ret (pe_tup (pa_cons (pv 2) (pa_cons (BX.pe_exf (pv 2)) pa_nil)))))) pss_nil)
        (pss_cons (ps_if (pt_cmpR op_eq (pv 0) pe_int (nomark _))
          (pss_cons (ps_set (i := 2) sc__law_made.nd rfl (Or.inl rfl) (BX.pe_ex X_NoHook (hr.mono (by decide)) (by rfl) (pv 1)))
          (pss_one (ps_ret (pe_tup (pa_cons (pv 2) (pa_cons (BX.pe_exf (pv 2)) pa_nil)))))) pss_nil)
        (pss_cons (ps_if (pt_cmpR op_eq (pv 0) pe_int (nomark _))
          (pss_cons (ps_set (i := 2) sc__law_made.nd rfl (Or.inl rfl) (BX.pe_ex X_BadFlag (hr.mono (by decide)) (by rfl) (pv 1)))
          (pss_one (ps_ret (pe_tup (pa_cons (pv 2) (pa_cons (BX.pe_exf (pv 2)) pa_nil)))))) pss_nil)
        (pss_cons (ps_if (pt_cmpR op_eq (pv 0) pe_int (nomark _))
          (pss_cons (ps_set (i := 2) sc__law_made.nd rfl (Or.inl rfl) (BX.pe_ex X_BadNumber (hr.mono (by decide)) (by rfl) (pv 1)))
          (pss_one (ps_ret (pe_tup (pa_cons (pv 2) (pa_cons (BX.pe_exf (pv 2)) pa_nil)))))) pss_nil)
        (pss_cons (ps_if (pt_cmpR op_eq (pv 0) pe_int (nomark _))
          (pss_cons (ps_set (i := 2) sc__law_made.nd rfl (Or.inl rfl) (BX.pe_ex X_BadWalk (hr.mono (by decide)) (by rfl) (pv 1)))
          (pss_one (ps_ret (pe_tup (pa_cons (pv 2) (pa_cons (BX.pe_exf (pv 2)) pa_nil)))))) pss_nil)
        (pss_one (ps_ret (BX.pe_cal C__law_made_late (hr.mono (by decide)) (by rfl) pass0 (pa_cons (pv 0) (pa_cons (pv 1) pa_nil))))))))))))), ?_⟩)
  obtain ⟨k, v, rfl, h1, h2, hQ⟩ := h
  refine ⟨_, rfl, rfl, _, rfl, ite2 (fun hq => by
    obtain rfl : k = 0 := V.int.inj (of_decide_eq_true hq)
    exact ⟨_, rfl, fun a d ha hd ne => ⟨_, rfl, _, rfl, a, _, d, _, _, rfl, X_BadText.xf, X_BadText.no, upd_same, by rw [upd_ne ne, upd_same], rfl, by show 2 ≤ sizeLine; decide, fun t ht => made_fin (x := "BadText") rfl hQ ha hd ne ht⟩⟩) (fun hq0 => ?_)⟩
  refine ⟨_, rfl, rfl, _, rfl, ite2 (fun hq => by
    obtain rfl : k = 1 := V.int.inj (of_decide_eq_true hq)
    exact ⟨_, rfl, fun a d ha hd ne => ⟨_, rfl, _, rfl, a, _, d, _, _, rfl, X_BadName.xf, X_BadName.no, upd_same, by rw [upd_ne ne, upd_same], rfl, by show 2 ≤ sizeLine; decide, fun t ht => made_fin (x := "BadName") rfl hQ ha hd ne ht⟩⟩) (fun hq1 => ?_)⟩
  refine ⟨_, rfl, rfl, _, rfl, ite2 (fun hq => by
    obtain rfl : k = 2 := V.int.inj (of_decide_eq_true hq)
    exact ⟨_, rfl, fun a d ha hd ne => ⟨_, rfl, _, rfl, a, _, d, _, _, rfl, X_NoStreet.xf, X_NoStreet.no, upd_same, by rw [upd_ne ne, upd_same], rfl, by show 2 ≤ sizeLine; decide, fun t ht => made_fin (x := "NoStreet") rfl hQ ha hd ne ht⟩⟩) (fun hq2 => ?_)⟩
  refine ⟨_, rfl, rfl, _, rfl, ite2 (fun hq => by
    obtain rfl : k = 3 := V.int.inj (of_decide_eq_true hq)
    exact ⟨_, rfl, fun a d ha hd ne => ⟨_, rfl, _, rfl, a, _, d, _, _, rfl, X_NoHook.xf, X_NoHook.no, upd_same, by rw [upd_ne ne, upd_same], rfl, by show 2 ≤ sizeLine; decide, fun t ht => made_fin (x := "NoHook") rfl hQ ha hd ne ht⟩⟩) (fun hq3 => ?_)⟩
  refine ⟨_, rfl, rfl, _, rfl, ite2 (fun hq => by
    obtain rfl : k = 4 := V.int.inj (of_decide_eq_true hq)
    exact ⟨_, rfl, fun a d ha hd ne => ⟨_, rfl, _, rfl, a, _, d, _, _, rfl, X_BadFlag.xf, X_BadFlag.no, upd_same, by rw [upd_ne ne, upd_same], rfl, by show 2 ≤ sizeLine; decide, fun t ht => made_fin (x := "BadFlag") rfl hQ ha hd ne ht⟩⟩) (fun hq4 => ?_)⟩
  refine ⟨_, rfl, rfl, _, rfl, ite2 (fun hq => by
    obtain rfl : k = 5 := V.int.inj (of_decide_eq_true hq)
    exact ⟨_, rfl, fun a d ha hd ne => ⟨_, rfl, _, rfl, a, _, d, _, _, rfl, X_BadNumber.xf, X_BadNumber.no, upd_same, by rw [upd_ne ne, upd_same], rfl, by show 2 ≤ sizeLine; decide, fun t ht => made_fin (x := "BadNumber") rfl hQ ha hd ne ht⟩⟩) (fun hq5 => ?_)⟩
  refine ⟨_, rfl, rfl, _, rfl, ite2 (fun hq => by
    obtain rfl : k = 6 := V.int.inj (of_decide_eq_true hq)
    exact ⟨_, rfl, fun a d ha hd ne => ⟨_, rfl, _, rfl, a, _, d, _, _, rfl, X_BadWalk.xf, X_BadWalk.no, upd_same, by rw [upd_ne ne, upd_same], rfl, by show 2 ≤ sizeLine; decide, fun t ht => made_fin (x := "BadWalk") rfl hQ ha hd ne ht⟩⟩) (fun hq6 => ?_)⟩
  have hk : 7 ≤ k := by
    have e : ∀ i : Int, ¬ decide (V.int k = V.int i) = true → k ≠ i := fun i h z => h (by rw [z]; exact decide_eq_true rfl)
    have := e _ hq0; have := e _ hq1; have := e _ hq2; have := e _ hq3; have := e _ hq4; have := e _ hq5; have := e _ hq6
    omega
  exact ⟨_, rfl, _, rfl, k, v, rfl, hk, h2, hQ⟩
theorem kits {w : World} {K : PySem.W.Frag} {mg : Str → Option Value} {base : Heap} (T : TP w K mg base) : (∀ x, x ∈ names → ∀ y, y ∈ names → PySem.W.kitOne K (.ref (He.ga K x)) (.ref (He.ga K y)) = some (decide (y = x))) ∧
    ∀ x, x ∈ names → PySem.W.kitOne K (.ref (He.ga K x)) (.ref (He.ga K "BuntingError")) = some true ∧ PySem.W.kitOne K (.ref (He.ga K x)) (.type "ValueError") = some true := by
  have m := T.more
  obtain ⟨_, m⟩ := He.ba m
  obtain ⟨_, m⟩ := He.ba m
  obtain ⟨m1, m2⟩ := He.ba m
  refine ⟨fun x hx y hy => of_decide_eq_true (List.all_eq_true.mp (List.all_eq_true.mp m1 x hx) y hy), fun x hx => ?_⟩
  obtain ⟨a1, a2⟩ := He.ba (List.all_eq_true.mp m2 x hx)
  exact ⟨of_decide_eq_true a1, of_decide_eq_true a2⟩
theorem sc__law_kinds : FnScope ["_law_e", "_law_found"] ["_law_e"] (defScope s__law_kinds) := ⟨rfl, rfl, rfl, by decide +kernel, rfl, by decide +kernel, by decide +kernel⟩
theorem ok__law_kinds {P : Program} {w : World} {K : PySem.W.Frag} {mg : Str → Option Value} {base : Heap} (T : TP w K mg base) (X_BadFlag : BX.ExCal P w K mg base "BadFlag" "index" (He.ga K "BadFlag")) (X_BadForm : BX.ExCal0 P w K mg base "BadForm" (He.ga K "BadForm")) (X_BadLetter : BX.ExCal P w K mg base "BadLetter" "letter" (He.ga K "BadLetter")) (X_BadName : BX.ExCal P w K mg base "BadName" "name" (He.ga K "BadName")) (X_BadNumber : BX.ExCal P w K mg base "BadNumber" "number" (He.ga K "BadNumber")) (X_BadPrice : BX.ExCal P w K mg base "BadPrice" "index" (He.ga K "BadPrice")) (X_BadText : BX.ExCal P w K mg base "BadText" "line" (He.ga K "BadText")) (X_BadWalk : BX.ExCal P w K mg base "BadWalk" "index" (He.ga K "BadWalk")) (X_Lost : BX.ExCal P w K mg base "Lost" "name" (He.ga K "Lost")) (X_NoHook : BX.ExCal P w K mg base "NoHook" "name" (He.ga K "NoHook")) (X_NoStreet : BX.ExCal P w K mg base "NoStreet" "name" (He.ga K "NoStreet")) (X_NotHung : BX.ExCal P w K mg base "NotHung" "walk" (He.ga K "NotHung")) (X_NothingToUndo : BX.ExCal0 P w K mg base "NothingToUndo" (He.ga K "NothingToUndo")) (X_TooMany : BX.ExCal P w K mg base "TooMany" "most" (He.ga K "TooMany")) (X_Unlike : BX.ExCal P w K mg base "Unlike" "index" (He.ga K "Unlike")) : BX.Cal P w K mg base CX0 2 "_law_kinds" ["_law_e"] (spKinds K) := by
  have m_isinstance : mg "isinstance" = none := T.free 13
  have g_BadFlag : mg "BadFlag" = some (.ref (He.ga K "BadFlag")) := X_BadFlag.glo
  have g_BadForm : mg "BadForm" = some (.ref (He.ga K "BadForm")) := X_BadForm.glo
  have g_BadLetter : mg "BadLetter" = some (.ref (He.ga K "BadLetter")) := X_BadLetter.glo
  have g_BadName : mg "BadName" = some (.ref (He.ga K "BadName")) := X_BadName.glo
  have g_BadNumber : mg "BadNumber" = some (.ref (He.ga K "BadNumber")) := X_BadNumber.glo
  have g_BadPrice : mg "BadPrice" = some (.ref (He.ga K "BadPrice")) := X_BadPrice.glo
  have g_BadText : mg "BadText" = some (.ref (He.ga K "BadText")) := X_BadText.glo
  have g_BadWalk : mg "BadWalk" = some (.ref (He.ga K "BadWalk")) := X_BadWalk.glo
  have g_Lost : mg "Lost" = some (.ref (He.ga K "Lost")) := X_Lost.glo
  have g_NoHook : mg "NoHook" = some (.ref (He.ga K "NoHook")) := X_NoHook.glo
  have g_NoStreet : mg "NoStreet" = some (.ref (He.ga K "NoStreet")) := X_NoStreet.glo
  have g_NotHung : mg "NotHung" = some (.ref (He.ga K "NotHung")) := X_NotHung.glo
  have g_NothingToUndo : mg "NothingToUndo" = some (.ref (He.ga K "NothingToUndo")) := X_NothingToUndo.glo
  have g_TooMany : mg "TooMany" = some (.ref (He.ga K "TooMany")) := X_TooMany.glo
  have g_Unlike : mg "Unlike" = some (.ref (He.ga K "Unlike")) := X_Unlike.glo
  refine T.cal 5 5 rfl rfl rfl rfl rfl sc__law_kinds (fun _ _ _ _ _ _ us hl => match us, hl with | [_], _ => rfl) (fun vs H Q E h => by obtain ⟨a,k,rfl,h1,h2,hE,hQ⟩ := h; rfl) (fun f cdv A outer s H vs Q E hr h => ⟨_, PSs.nox ((pss_cons (ps_set (i := 1) sc__law_kinds.nd rfl (Or.inl rfl) (pe_lst (pa_cons (pe_callB BX.call_isx (by rfl) m_isinstance (by decide +kernel) (pa_cons (pv 0) (pa_cons (pe_glob (v := .ref (He.ga K "BadText")) (by rfl) g_BadText rfl) pa_nil))) (pa_cons (pe_callB BX.call_isx (by rfl) m_isinstance (by decide +kernel) (pa_cons (pv 0) (pa_cons (pe_glob (v := .ref (He.ga K "BadName")) (by rfl) g_BadName rfl) pa_nil))) (pa_cons (pe_callB BX.call_isx (by rfl) m_isinstance (by decide +kernel) (pa_cons (pv 0) (pa_cons (pe_glob (v := .ref (He.ga K "NoStreet")) (by rfl) g_NoStreet rfl) pa_nil))) (pa_cons (pe_callB BX.call_isx (by rfl) m_isinstance (by decide +kernel) (pa_cons (pv 0) (pa_cons (pe_glob (v := .ref (He.ga K "NoHook")) (by rfl) g_NoHook rfl) pa_nil))) pa_nil))))))
        (pss_cons (ps_set (i := 1) sc__law_kinds.nd rfl (Or.inl rfl) (pe_op op_cat (pv 1) (pe_lst (pa_cons (pe_callB BX.call_isx (by rfl) m_isinstance (by decide +kernel) (pa_cons (pv 0) (pa_cons (pe_glob (v := .ref (He.ga K "BadFlag")) (by rfl) g_BadFlag rfl) pa_nil))) (pa_cons (pe_callB BX.call_isx (by rfl) m_isinstance (by decide +kernel) (pa_cons (pv 0) (pa_cons (pe_glob (v := .ref (He.ga K "BadNumber")) (by rfl) g_BadNumber rfl) pa_nil))) (pa_cons (pe_callB BX.call_isx (by rfl) m_isinstance (by decide +kernel) (pa_cons (pv 0) (pa_cons (pe_glob (v := .ref (He.ga K "BadWalk")) (by rfl) g_BadWalk rfl) pa_nil))) (pa_cons (pe_callB BX.call_isx (by rfl) m_isinstance (by decide +kernel) (pa_cons (pv 0) (pa_cons (pe_glob (v := .ref (He.ga K "NotHung")) (by rfl) g_NotHung rfl) pa_nil))) pa_nil)))))))
        (pss_cons (ps_set (i := 1) sc__law_kinds.nd rfl (Or.inl rfl) (pe_op op_cat (pv 1) (pe_lst (pa_cons (pe_callB BX.call_isx (by rfl) m_isinstance (by decide +kernel) (pa_cons (pv 0) (pa_cons (pe_glob (v := .ref (He.ga K "TooMany")) (by rfl) g_TooMany rfl) pa_nil))) (pa_cons (pe_callB BX.call_isx (by rfl) m_isinstance (by decide +kernel) (pa_cons (pv 0) (pa_cons (pe_glob (v := .ref (He.ga K "BadLetter")) (by rfl) g_BadLetter rfl) pa_nil))) (pa_cons (pe_callB BX.call_isx (by rfl) m_isinstance (by decide +kernel) (pa_cons (pv 0) (pa_cons (pe_glob (v := .ref (He.ga K "Unlike")) (by rfl) g_Unlike rfl) pa_nil))) (pa_cons (pe_callB BX.call_isx (by rfl) m_isinstance (by decide +kernel) (pa_cons (pv 0) (pa_cons (pe_glob (v := .ref (He.ga K "BadPrice")) (by rfl) g_BadPrice rfl) pa_nil))) pa_nil)))))))
        (pss_one (ps_ret (pe_op op_cat (pv 1) (pe_lst (pa_cons (pe_callB BX.call_isx (by rfl) m_isinstance (by decide +kernel) (pa_cons (pv 0) (pa_cons (pe_glob (v := .ref (He.ga K "Lost")) (by rfl) g_Lost rfl) pa_nil))) (pa_cons (pe_callB BX.call_isx (by rfl) m_isinstance (by decide +kernel) (pa_cons (pv 0) (pa_cons (pe_glob (v := .ref (He.ga K "BadForm")) (by rfl) g_BadForm rfl) pa_nil))) (pa_cons (pe_callB BX.call_isx (by rfl) m_isinstance (by decide +kernel) (pa_cons (pv 0) (pa_cons (pe_glob (v := .ref (He.ga K "NothingToUndo")) (by rfl) g_NothingToUndo rfl) pa_nil))) pa_nil))))))))))), ?_⟩)
  obtain ⟨a, k, rfl, h1, h2, hE, hQ⟩ := h
  obtain ⟨x, dd, hx, ha, hd⟩ := hE
  have hxm : x ∈ names := List.mem_of_getElem? hx
  have hexc : ExcC K (He.ga K x) := by
    unfold names at hxm
    simp only [List.mem_cons, List.not_mem_nil, or_false] at hxm
    rcases hxm with rfl | rfl | rfl | rfl | rfl | rfl | rfl | rfl | rfl | rfl | rfl | rfl | rfl | rfl | rfl
    · exact X_BadText.exc
    · exact X_BadName.exc
    · exact X_NoStreet.exc
    · exact X_NoHook.exc
    · exact X_BadFlag.exc
    · exact X_BadNumber.exc
    · exact X_BadWalk.exc
    · exact X_NotHung.exc
    · exact X_TooMany.exc
    · exact X_BadLetter.exc
    · exact X_Unlike.exc
    · exact X_BadPrice.exc
    · exact X_Lost.exc
    · exact X_BadForm.exc
    · exact X_NothingToUndo.exc
  have kit := (kits T).1 x hxm
  have cx : ∀ {H'}, BX.Ex 0 H H' → H' a = some (exo a (He.ga K x) dd) ∧ ∀ d, dd = some d → ∃ fs, H' d = some (exd d fs) := fun {H'} e => ⟨e.ext ha, fun d hdd => by obtain ⟨fs, hf⟩ := hd d hdd; exact ⟨fs, e.ext hf⟩⟩
  have sz : ∀ n : Nat, n ≤ 100 → n ≤ sizeLine := fun n h => Nat.le_trans h (by decide)
  refine ⟨_, rfl, a, _, dd, _, _, _, rfl, (cx BX.Ex.refl).1, (cx BX.Ex.refl).2, hexc, .own _, kit "BadText" (by decide +kernel), ⟨_, rfl, a, _, dd, _, _, _, rfl, (cx BX.Ex.refl).1, (cx BX.Ex.refl).2, hexc, .own _, kit "BadName" (by decide +kernel), ⟨_, rfl, a, _, dd, _, _, _, rfl, (cx BX.Ex.refl).1, (cx BX.Ex.refl).2, hexc, .own _, kit "NoStreet" (by decide +kernel), ⟨_, rfl, a, _, dd, _, _, _, rfl, (cx BX.Ex.refl).1, (cx BX.Ex.refl).2, hexc, .own _, kit "NoHook" (by decide +kernel), ⟨sz _ (by show 4 ≤ 100; decide), fun p1 n1 => ⟨_, rfl, ?_⟩⟩⟩⟩⟩⟩
  have e1 : BX.Ex 0 H (upd H p1 (.lst [V.bl (decide ("BadText" = x)), V.bl (decide ("BadName" = x)), V.bl (decide ("NoStreet" = x)), V.bl (decide ("NoHook" = x))])) := BX.Ex.new n1
  refine ⟨_, rfl, a, _, dd, _, _, _, rfl, (cx e1).1, (cx e1).2, hexc, .own _, kit "BadFlag" (by decide +kernel), ⟨_, rfl, a, _, dd, _, _, _, rfl, (cx e1).1, (cx e1).2, hexc, .own _, kit "BadNumber" (by decide +kernel), ⟨_, rfl, a, _, dd, _, _, _, rfl, (cx e1).1, (cx e1).2, hexc, .own _, kit "BadWalk" (by decide +kernel), ⟨_, rfl, a, _, dd, _, _, _, rfl, (cx e1).1, (cx e1).2, hexc, .own _, kit "NotHung" (by decide +kernel), ⟨sz _ (by show 4 ≤ 100; decide), fun p2 n2 => ?_⟩⟩⟩⟩⟩
  have n12 : p1 ≠ p2 := ne_of_none upd_same n2
  have e2 := e1.t0 (BX.Ex.new (k := 0) (o := .lst [V.bl (decide ("BadFlag" = x)), V.bl (decide ("BadNumber" = x)), V.bl (decide ("BadWalk" = x)), V.bl (decide ("NotHung" = x))]) n2)
  refine ⟨p1, p2, _, _, rfl, rfl, by rw [upd_ne n12, upd_same], upd_same, sz _ (by show 8 ≤ 100; decide), fun p3 n3 => ?_⟩
  have e3 := e2.t0 (BX.Ex.new (k := 0) (o := .lst ([V.bl (decide ("BadText" = x)), V.bl (decide ("BadName" = x)), V.bl (decide ("NoStreet" = x)), V.bl (decide ("NoHook" = x))] ++ [V.bl (decide ("BadFlag" = x)), V.bl (decide ("BadNumber" = x)), V.bl (decide ("BadWalk" = x)), V.bl (decide ("NotHung" = x))])) n3)
  generalize hH3 : upd (upd (upd H p1 _) p2 _) p3 _ = H3 at e3
  have hp3 : H3 p3 = some (.lst ([V.bl (decide ("BadText" = x)), V.bl (decide ("BadName" = x)), V.bl (decide ("NoStreet" = x)), V.bl (decide ("NoHook" = x))] ++ [V.bl (decide ("BadFlag" = x)), V.bl (decide ("BadNumber" = x)), V.bl (decide ("BadWalk" = x)), V.bl (decide ("NotHung" = x))])) := by rw [← hH3, upd_same]
  clear hH3
  refine ⟨_, rfl, ⟨_, rfl, a, _, dd, _, _, _, rfl, (cx e3).1, (cx e3).2, hexc, .own _, kit "TooMany" (by decide +kernel), ⟨_, rfl, a, _, dd, _, _, _, rfl, (cx e3).1, (cx e3).2, hexc, .own _, kit "BadLetter" (by decide +kernel), ⟨_, rfl, a, _, dd, _, _, _, rfl, (cx e3).1, (cx e3).2, hexc, .own _, kit "Unlike" (by decide +kernel), ⟨_, rfl, a, _, dd, _, _, _, rfl, (cx e3).1, (cx e3).2, hexc, .own _, kit "BadPrice" (by decide +kernel), ⟨sz _ (by show 4 ≤ 100; decide), fun p4 n4 => ?_⟩⟩⟩⟩⟩⟩
  have n34 : p3 ≠ p4 := ne_of_none hp3 n4
  have e4 := e3.t0 (BX.Ex.new (k := 0) (o := .lst [V.bl (decide ("TooMany" = x)), V.bl (decide ("BadLetter" = x)), V.bl (decide ("Unlike" = x)), V.bl (decide ("BadPrice" = x))]) n4)
  refine ⟨p3, p4, _, _, rfl, rfl, by rw [upd_ne n34]; exact hp3, upd_same, sz _ (by show 12 ≤ 100; decide), fun p5 n5 => ?_⟩
  have e5 := e4.t0 (BX.Ex.new (k := 0) (o := .lst ([V.bl (decide ("BadText" = x)), V.bl (decide ("BadName" = x)), V.bl (decide ("NoStreet" = x)), V.bl (decide ("NoHook" = x))] ++ [V.bl (decide ("BadFlag" = x)), V.bl (decide ("BadNumber" = x)), V.bl (decide ("BadWalk" = x)), V.bl (decide ("NotHung" = x))] ++ [V.bl (decide ("TooMany" = x)), V.bl (decide ("BadLetter" = x)), V.bl (decide ("Unlike" = x)), V.bl (decide ("BadPrice" = x))])) n5)
  generalize hH5 : upd (upd H3 p4 _) p5 _ = H5 at e5
  have hp5 : H5 p5 = some (.lst ([V.bl (decide ("BadText" = x)), V.bl (decide ("BadName" = x)), V.bl (decide ("NoStreet" = x)), V.bl (decide ("NoHook" = x))] ++ [V.bl (decide ("BadFlag" = x)), V.bl (decide ("BadNumber" = x)), V.bl (decide ("BadWalk" = x)), V.bl (decide ("NotHung" = x))] ++ [V.bl (decide ("TooMany" = x)), V.bl (decide ("BadLetter" = x)), V.bl (decide ("Unlike" = x)), V.bl (decide ("BadPrice" = x))])) := by rw [← hH5, upd_same]
  clear hH5
  refine ⟨_, rfl, ⟨_, rfl, a, _, dd, _, _, _, rfl, (cx e5).1, (cx e5).2, hexc, .own _, kit "Lost" (by decide +kernel), ⟨_, rfl, a, _, dd, _, _, _, rfl, (cx e5).1, (cx e5).2, hexc, .own _, kit "BadForm" (by decide +kernel), ⟨_, rfl, a, _, dd, _, _, _, rfl, (cx e5).1, (cx e5).2, hexc, .own _, kit "NothingToUndo" (by decide +kernel), ⟨sz _ (by show 3 ≤ 100; decide), fun p6 n6 => ?_⟩⟩⟩⟩⟩
  have n56 : p5 ≠ p6 := ne_of_none hp5 n6
  have e6 := e5.t0 (BX.Ex.new (k := 0) (o := .lst [V.bl (decide ("Lost" = x)), V.bl (decide ("BadForm" = x)), V.bl (decide ("NothingToUndo" = x))]) n6)
  refine ⟨p5, p6, _, _, rfl, rfl, by rw [upd_ne n56]; exact hp5, upd_same, sz _ (by show 15 ≤ 100; decide), fun p7 n7 => ?_⟩
  refine hQ p7 _ (e6.t0 (BX.Ex.new n7)) ?_
  rw [upd_same]
  have hk : k = 0 ∨ k = 1 ∨ k = 2 ∨ k = 3 ∨ k = 4 ∨ k = 5 ∨ k = 6 ∨ k = 7 ∨ k = 8 ∨ k = 9 ∨ k = 10 ∨ k = 11 ∨ k = 12 ∨ k = 13 ∨ k = 14 := by omega
  rcases hk with rfl | rfl | rfl | rfl | rfl | rfl | rfl | rfl | rfl | rfl | rfl | rfl | rfl | rfl | rfl <;>
  · cases hx
    rfl
theorem dat_ex {K : PySem.W.Frag} {k : Nat} {H H' : Hp} {v : V} (e : BX.Ex k H H') (h : Dat K H v) : Dat K H' v := by
  obtain ⟨d, h1, h2, h3⟩ := h
  exact ⟨d, BX.dp_ex e d v h1, h2, h3⟩
theorem sc_law : FnScope ["_law_script", "_law_pen_here", "_law_k", "_law_worth_here", "_law_error", "_law_kept", "_law_j"] ["_law_script"] (defScope s_law) := ⟨rfl, rfl, rfl, by decide +kernel, rfl, by decide +kernel, by decide +kernel⟩
theorem ok_law {P : Program} {w : World} {K : PySem.W.Frag} {mg : Str → Option Value} {base : Heap} (T : TP w K mg base) (C__law_kinds : BX.Cal P w K mg base CX0 2 "_law_kinds" ["_law_e"] (spKinds K)) (C__law_made : BX.Cal P w K mg base CX0 4 "_law_made" ["_law_k", "_law_worth_here"] (spMade K)) (C__law_pen : BX.Cal P w K mg base CX0 1 "_law_pen" ["_law_script"] (BX.spPen K)) (C__law_worth : BX.Cal P w K mg base CX0 3 "_law_worth" ["_law_pen_here", "_law_k"] (spWorth K)) (hXC : ∀ x, x ∈ names → ExcC K (He.ga K x)) : BX.Cal P w K mg base CX0 5 "law" ["_law_script"] (spLaw K) := by
  have m_ValueError : mg "ValueError" = none := T.free 14
  have m_isinstance : mg "isinstance" = none := T.free 13
  have m_range : mg "range" = none := T.free 12
  have g_BuntingError : mg "BuntingError" = some (.ref (He.ga K "BuntingError")) := T.glo 8
  refine T.cal 7 7 rfl rfl rfl rfl rfl sc_law (fun _ _ _ _ _ _ us hl => match us, hl with | [_], _ => rfl) (fun vs H Q E h => by obtain ⟨a,ns,rfl,hS,hQ⟩ := h; rfl) (fun f cdv A outer s H vs Q E hr h => ⟨_, PSs.nox ((pss_cons (ps_set (i := 1) sc_law.nd rfl (Or.inl rfl) (BX.pe_cal C__law_pen (hr.mono (by decide)) (by rfl) pass0 (pa_cons (pv 0) pa_nil)))
        (pss_cons (ps_for PassesOwn.never rfl (pi_range1 rfl m_range (pa_cons pe_int pa_nil)) (pg_name (i := 2) sc_law.nd rfl (Or.inr rfl))
          (pss_cons (ps_set (i := 3) sc_law.nd rfl (Or.inl rfl) (BX.pe_cal C__law_worth (hr.mono (by decide)) (by rfl) pass0 (pa_cons (pv 1) (pa_cons (pv 2) pa_nil))))
          (pss_cons (ps_asg (BX.pe_cal C__law_made (hr.mono (by decide)) (by rfl) pass0 (pa_cons (pv 2) (pa_cons (pv 3) pa_nil))) (pg_tup (by rfl) (pgs_cons (pg_name (i := 4) sc_law.nd rfl (Or.inl rfl)) (pgs_cons (pg_name (i := 5) sc_law.nd rfl (Or.inl rfl)) pgs_nil))))
          (pss_cons (ps_if (PW.pt (pw_or (pt_cmpR (op_neD (hr).units) (pv 5) (pv 3) (nomark _)) (pw_or (pt_not (pt_val (pe_callB BX.call_isx (by rfl) m_isinstance (by decide +kernel) (pa_cons (pv 4) (pa_cons (pe_glob (v := .ref (He.ga K "BuntingError")) (by rfl) g_BuntingError rfl) pa_nil))))) (pw_or1 (pt_not (pt_val (pe_callB BX.call_isx (by rfl) m_isinstance (by decide +kernel) (pa_cons (pv 4) (pa_cons (pe_bltn (v := .ty "ValueError") (by rfl) m_ValueError (by decide +kernel) rfl) pa_nil)))))))))
            (pss_one (ps_ret pe_bl)) pss_nil)
          (pss_one (ps_if (pt_cmpR (op_neD (hr).units) (BX.pe_cal C__law_kinds (hr.mono (by decide)) (by rfl) pass0 (pa_cons (pv 4) pa_nil)) (pe_lc (own := [("_law_j", 6)]) (g := gName 6) (tt := tYes) rfl sc_law.nd (pi_range1 rfl m_range (pa_cons pe_int pa_nil)) (blkOk_by (N := ["_law_script", "_law_pen_here", "_law_k", "_law_worth_here", "_law_error", "_law_kept", "_law_j"]) (sc := defScope s_law) (by decide +kernel)) (fun _ _ _ _ _ => (pg_name (i := 6) sc_law.nd rfl (Or.inl rfl))) (fun _ _ _ _ _ => pts_nil) (fun _ _ _ _ _ => (pe_cmpR op_eq (pv 6) (pv 2) (nomark _)))) (nomark _))
            (pss_one (ps_ret pe_bl)) pss_nil))))))
        (pss_one (ps_ret pe_bl))))), ?_⟩)
  obtain ⟨a, ns, rfl, hS, hQ⟩ := h
  refine ⟨_, rfl, a, ns, rfl, hS, fun p H1 e1 hP => ?_⟩
  refine ⟨15, rfl, by decide, by decide, for_range (n := 15) (fun i σ H => BX.Pen H p i ∧ ∃ s2 s3 s4 s5 s6, σ = [some (.ref a), some (.ref p), s2, s3, s4, s5, s6]) ⟨hP, _, _, _, _, _, rfl⟩ ?_ ?_⟩
  · rintro i σ H2 hi ⟨hP2, s2, s3, s4, s5, s6, rfl⟩
    refine ⟨_, rfl, _, rfl, p, i, 0 + (i : Int), rfl, hP2, by omega, fun v H3 e3 hv => ?_⟩
    refine ⟨_, rfl, _, rfl, 0 + (i : Int), v, rfl, by omega, by omega, fun t er H4 e4 ht hE => ?_⟩
    refine ⟨t, _, rfl, Evl.st_of ht, rfl, _, _, rfl, _, _, rfl, rfl, ?_⟩
    obtain ⟨d, hd, sh, pl⟩ := dat_ex e4 hv
    obtain ⟨x, dd, hx, ha, hdd⟩ := hE
    have hxm : x ∈ names := List.mem_of_getElem? hx
    have hself := PySem.SeqAt.eqv_refl_plain d pl
    refine ⟨_, rfl, _, rfl, d, d, hd, hd, sh, sh, _, rfl, ?_⟩
    rw [hself]
    refine iteF ⟨_, rfl, er, _, dd, _, _, _, rfl, ha, hdd, hXC x hxm, .own _, ((kits T).2 x hxm).1, _, rfl, iteF ⟨_, rfl, er, _, dd, _, _, _, rfl, ha, hdd, hXC x hxm, .ty _, ((kits T).2 x hxm).2, _, rfl, iteF ?_⟩⟩
    refine ⟨_, rfl, er, 0 + (i : Int), rfl, by omega, by omega, ⟨x, dd, hx, ha, hdd⟩, fun q H5 e5 hq => ?_⟩
    refine ⟨15, rfl, by decide, by decide, fun D hD => lc_range (lo := 0) (n := 15) (fun j H => BX.Ex 0 H5 H ∧ H D = some (.lst ((List.range j).map fun j : Nat => V.bl (decide ((j : Int) = 0 + (i : Int)))))) ⟨BX.Ex.new hD, upd_same⟩ ?_ ?_⟩
    · rintro j H6 hj ⟨e6, h6⟩
      refine ⟨rfl, ?_⟩
      dsimp only [L2.tYes]
      refine iteT ⟨_, rfl, _, rfl, rfl, _, h6, ?_, ?_⟩
      · rw [List.length_map, List.length_range]; exact Nat.lt_trans hj (by decide)
      · refine ⟨e6.mut hD, ?_⟩
        rw [upd_same, List.range_succ, List.map_append]
        have e0 : decide (V.int (0 + (j : Int)) = V.int (0 + (i : Int))) = decide ((j : Int) = 0 + (i : Int)) := decide_eq_decide.mpr ⟨fun z => by have := V.int.inj z; omega, fun z => by rw [← z, Int.zero_add]⟩
        rw [e0]
        rfl
    · rintro H6 ⟨e6, h6⟩
      have em : ((List.range 15).map fun j : Nat => V.bl (decide ((j : Int) = 0 + (i : Int)))) = ((List.range 15).map fun j : Nat => decide ((j : Int) = 0 + (i : Int))).map V.bl := by
        rw [List.map_map]
        rfl
      have hq6 := e6.l hq
      rw [em] at h6 hq6
      generalize ((List.range 15).map fun j : Nat => decide ((j : Int) = 0 + (i : Int))) = bs at h6 hq6
      refine ⟨_, _, .lst (SqL.of hq6) (BX.dpa_bls bs), .lst (SqL.of h6) (BX.dpa_bls bs), BX.shaped_bls bs, BX.shaped_bls bs, _, rfl, ?_⟩
      have hb : PyData.eqv (.list (bs.map PyData.bool)) (.list (bs.map PyData.bool)) = true := PySem.SeqAt.eqv_refl_plain _ (BX.plain_bls bs)
      rw [hb]
      refine iteF ?_
      exact ⟨((((hP2.go e3).go e4).go e5).go e6).le (by omega), _, _, _, _, _, rfl⟩
  · rintro σ H2 ⟨hP2, s2, s3, s4, s5, s6, rfl⟩
    exact hQ _
abbrev Pg : Program := (PySem.Challenge.rw_bunting_k00_errors_made_from_their_field).prog
theorem xfile : ((Pg.main.file : Str) == ("/claim/cut.py" : Str)) = true := by kernel_rfl
theorem xtop : (Pg.main.scope.names.lookup ("super" : Str)).isSome = false := by kernel_rfl
section
variable {w : World} {K : PySem.W.Frag} {mg : Str → Option Value} {base : Heap}
theorem xsp (T : TP w K mg base) : PySem.W.specialIn K (.builtin "object.__class__") "__get__" = some (some (.builtin "getset_descriptor.__get__")) ∧ PySem.W.takesIn K (.builtin "object.__class__") = some true := by
  obtain ⟨m1, m⟩ := He.ba T.more
  obtain ⟨m2, m⟩ := He.ba m
  exact ⟨He.eqO_ok m1, of_decide_eq_true m2⟩
theorem xd_BadText : BX.ExDef s_BadText "line" :=
  ⟨⟨_, _, _, _, _, _, _, _, _, _, _, _, rfl, fun env he => ⟨⟨_, rfl⟩, by unfold interactive; rw [he]; rfl, rfl, rfl⟩⟩, rfl, by decide +kernel, rfl, rfl, rfl, fun qual cl kV doc pm an cdv ct us hl => match us, hl with | [_, _], _ => rfl⟩
theorem xc_BadText (T : TP w K mg base) : BX.ExCal Pg w K mg base "BadText" "line" (He.ga K "BadText") := T.exc 0 rfl xd_BadText (xsp T).1 (xsp T).2 xfile xtop
theorem xd_BadName : BX.ExDef s_BadName "name" :=
  ⟨⟨_, _, _, _, _, _, _, _, _, _, _, _, rfl, fun env he => ⟨⟨_, rfl⟩, by unfold interactive; rw [he]; rfl, rfl, rfl⟩⟩, rfl, by decide +kernel, rfl, rfl, rfl, fun qual cl kV doc pm an cdv ct us hl => match us, hl with | [_, _], _ => rfl⟩
theorem xc_BadName (T : TP w K mg base) : BX.ExCal Pg w K mg base "BadName" "name" (He.ga K "BadName") := T.exc 1 rfl xd_BadName (xsp T).1 (xsp T).2 xfile xtop
theorem xd_NoStreet : BX.ExDef s_NoStreet "name" :=
  ⟨⟨_, _, _, _, _, _, _, _, _, _, _, _, rfl, fun env he => ⟨⟨_, rfl⟩, by unfold interactive; rw [he]; rfl, rfl, rfl⟩⟩, rfl, by decide +kernel, rfl, rfl, rfl, fun qual cl kV doc pm an cdv ct us hl => match us, hl with | [_, _], _ => rfl⟩
theorem xc_NoStreet (T : TP w K mg base) : BX.ExCal Pg w K mg base "NoStreet" "name" (He.ga K "NoStreet") := T.exc 2 rfl xd_NoStreet (xsp T).1 (xsp T).2 xfile xtop
theorem xd_NoHook : BX.ExDef s_NoHook "name" :=
  ⟨⟨_, _, _, _, _, _, _, _, _, _, _, _, rfl, fun env he => ⟨⟨_, rfl⟩, by unfold interactive; rw [he]; rfl, rfl, rfl⟩⟩, rfl, by decide +kernel, rfl, rfl, rfl, fun qual cl kV doc pm an cdv ct us hl => match us, hl with | [_, _], _ => rfl⟩
theorem xc_NoHook (T : TP w K mg base) : BX.ExCal Pg w K mg base "NoHook" "name" (He.ga K "NoHook") := T.exc 3 rfl xd_NoHook (xsp T).1 (xsp T).2 xfile xtop
theorem xd_BadFlag : BX.ExDef s_BadFlag "index" :=
  ⟨⟨_, _, _, _, _, _, _, _, _, _, _, _, rfl, fun env he => ⟨⟨_, rfl⟩, by unfold interactive; rw [he]; rfl, rfl, rfl⟩⟩, rfl, by decide +kernel, rfl, rfl, rfl, fun qual cl kV doc pm an cdv ct us hl => match us, hl with | [_, _], _ => rfl⟩
theorem xc_BadFlag (T : TP w K mg base) : BX.ExCal Pg w K mg base "BadFlag" "index" (He.ga K "BadFlag") := T.exc 4 rfl xd_BadFlag (xsp T).1 (xsp T).2 xfile xtop
theorem xd_BadNumber : BX.ExDef s_BadNumber "number" :=
  ⟨⟨_, _, _, _, _, _, _, _, _, _, _, _, rfl, fun env he => ⟨⟨_, rfl⟩, by unfold interactive; rw [he]; rfl, rfl, rfl⟩⟩, rfl, by decide +kernel, rfl, rfl, rfl, fun qual cl kV doc pm an cdv ct us hl => match us, hl with | [_, _], _ => rfl⟩
theorem xc_BadNumber (T : TP w K mg base) : BX.ExCal Pg w K mg base "BadNumber" "number" (He.ga K "BadNumber") := T.exc 5 rfl xd_BadNumber (xsp T).1 (xsp T).2 xfile xtop
theorem xd_BadWalk : BX.ExDef s_BadWalk "index" :=
  ⟨⟨_, _, _, _, _, _, _, _, _, _, _, _, rfl, fun env he => ⟨⟨_, rfl⟩, by unfold interactive; rw [he]; rfl, rfl, rfl⟩⟩, rfl, by decide +kernel, rfl, rfl, rfl, fun qual cl kV doc pm an cdv ct us hl => match us, hl with | [_, _], _ => rfl⟩
theorem xc_BadWalk (T : TP w K mg base) : BX.ExCal Pg w K mg base "BadWalk" "index" (He.ga K "BadWalk") := T.exc 6 rfl xd_BadWalk (xsp T).1 (xsp T).2 xfile xtop
theorem xd_NotHung : BX.ExDef s_NotHung "walk" :=
  ⟨⟨_, _, _, _, _, _, _, _, _, _, _, _, rfl, fun env he => ⟨⟨_, rfl⟩, by unfold interactive; rw [he]; rfl, rfl, rfl⟩⟩, rfl, by decide +kernel, rfl, rfl, rfl, fun qual cl kV doc pm an cdv ct us hl => match us, hl with | [_, _], _ => rfl⟩
theorem xc_NotHung (T : TP w K mg base) : BX.ExCal Pg w K mg base "NotHung" "walk" (He.ga K "NotHung") := T.exc 7 rfl xd_NotHung (xsp T).1 (xsp T).2 xfile xtop
theorem xd_TooMany : BX.ExDef s_TooMany "most" :=
  ⟨⟨_, _, _, _, _, _, _, _, _, _, _, _, rfl, fun env he => ⟨⟨_, rfl⟩, by unfold interactive; rw [he]; rfl, rfl, rfl⟩⟩, rfl, by decide +kernel, rfl, rfl, rfl, fun qual cl kV doc pm an cdv ct us hl => match us, hl with | [_, _], _ => rfl⟩
theorem xc_TooMany (T : TP w K mg base) : BX.ExCal Pg w K mg base "TooMany" "most" (He.ga K "TooMany") := T.exc 8 rfl xd_TooMany (xsp T).1 (xsp T).2 xfile xtop
theorem xd_NothingToUndo : BX.ExDef0 s_NothingToUndo :=
  ⟨⟨_, _, _, _, _, _, _, _, rfl, fun env he => ⟨⟨_, rfl⟩, by unfold interactive; rw [he]; rfl, rfl⟩⟩, rfl, by decide +kernel, rfl, fun qual cl kV doc pm an cdv ct us hl => match us, hl with | [_], _ => rfl⟩
theorem xc_NothingToUndo (T : TP w K mg base) : BX.ExCal0 Pg w K mg base "NothingToUndo" (He.ga K "NothingToUndo") := T.exc0 9 rfl xd_NothingToUndo (xsp T).1 (xsp T).2 xfile xtop
theorem xd_BadForm : BX.ExDef0 s_BadForm :=
  ⟨⟨_, _, _, _, _, _, _, _, rfl, fun env he => ⟨⟨_, rfl⟩, by unfold interactive; rw [he]; rfl, rfl⟩⟩, rfl, by decide +kernel, rfl, fun qual cl kV doc pm an cdv ct us hl => match us, hl with | [_], _ => rfl⟩
theorem xc_BadForm (T : TP w K mg base) : BX.ExCal0 Pg w K mg base "BadForm" (He.ga K "BadForm") := T.exc0 10 rfl xd_BadForm (xsp T).1 (xsp T).2 xfile xtop
theorem xd_BadLetter : BX.ExDef s_BadLetter "letter" :=
  ⟨⟨_, _, _, _, _, _, _, _, _, _, _, _, rfl, fun env he => ⟨⟨_, rfl⟩, by unfold interactive; rw [he]; rfl, rfl, rfl⟩⟩, rfl, by decide +kernel, rfl, rfl, rfl, fun qual cl kV doc pm an cdv ct us hl => match us, hl with | [_, _], _ => rfl⟩
theorem xc_BadLetter (T : TP w K mg base) : BX.ExCal Pg w K mg base "BadLetter" "letter" (He.ga K "BadLetter") := T.exc 11 rfl xd_BadLetter (xsp T).1 (xsp T).2 xfile xtop
theorem xd_Unlike : BX.ExDef s_Unlike "index" :=
  ⟨⟨_, _, _, _, _, _, _, _, _, _, _, _, rfl, fun env he => ⟨⟨_, rfl⟩, by unfold interactive; rw [he]; rfl, rfl, rfl⟩⟩, rfl, by decide +kernel, rfl, rfl, rfl, fun qual cl kV doc pm an cdv ct us hl => match us, hl with | [_, _], _ => rfl⟩
theorem xc_Unlike (T : TP w K mg base) : BX.ExCal Pg w K mg base "Unlike" "index" (He.ga K "Unlike") := T.exc 12 rfl xd_Unlike (xsp T).1 (xsp T).2 xfile xtop
theorem xd_BadPrice : BX.ExDef s_BadPrice "index" :=
  ⟨⟨_, _, _, _, _, _, _, _, _, _, _, _, rfl, fun env he => ⟨⟨_, rfl⟩, by unfold interactive; rw [he]; rfl, rfl, rfl⟩⟩, rfl, by decide +kernel, rfl, rfl, rfl, fun qual cl kV doc pm an cdv ct us hl => match us, hl with | [_, _], _ => rfl⟩
theorem xc_BadPrice (T : TP w K mg base) : BX.ExCal Pg w K mg base "BadPrice" "index" (He.ga K "BadPrice") := T.exc 13 rfl xd_BadPrice (xsp T).1 (xsp T).2 xfile xtop
theorem xd_Lost : BX.ExDef s_Lost "name" :=
  ⟨⟨_, _, _, _, _, _, _, _, _, _, _, _, rfl, fun env he => ⟨⟨_, rfl⟩, by unfold interactive; rw [he]; rfl, rfl, rfl⟩⟩, rfl, by decide +kernel, rfl, rfl, rfl, fun qual cl kV doc pm an cdv ct us hl => match us, hl with | [_, _], _ => rfl⟩
theorem xc_Lost (T : TP w K mg base) : BX.ExCal Pg w K mg base "Lost" "name" (He.ga K "Lost") := T.exc 14 rfl xd_Lost (xsp T).1 (xsp T).2 xfile xtop
end
theorem exs_all {w : World} {K : PySem.W.Frag} {mg : Str → Option Value} {base : Heap} (T : TP w K mg base) : ∀ x, x ∈ names → ExcC K (He.ga K x) := fun x hxm => by
  unfold names at hxm
  simp only [List.mem_cons, List.not_mem_nil, or_false] at hxm
  rcases hxm with rfl | rfl | rfl | rfl | rfl | rfl | rfl | rfl | rfl | rfl | rfl | rfl | rfl | rfl | rfl
  · exact (xc_BadText T).exc
  · exact (xc_BadName T).exc
  · exact (xc_NoStreet T).exc
  · exact (xc_NoHook T).exc
  · exact (xc_BadFlag T).exc
  · exact (xc_BadNumber T).exc
  · exact (xc_BadWalk T).exc
  · exact (xc_NotHung T).exc
  · exact (xc_TooMany T).exc
  · exact (xc_BadLetter T).exc
  · exact (xc_Unlike T).exc
  · exact (xc_BadPrice T).exc
  · exact (xc_Lost T).exc
  · exact (xc_BadForm T).exc
  · exact (xc_NothingToUndo T).exc
theorem cal_law {w : World} {K : PySem.W.Frag} {mg : Str → Option Value} {base : Heap} (T : TP w K mg base) : BX.Cal Pg w K mg base CX0 5 "law" ["_law_script"] (spLaw K) := by
  have cd := ok__law_draw (P := Pg) T
  have cp := ok__law_pick T cd
  have cl := ok__law_made_late T (xc_BadForm T) (xc_BadLetter T) (xc_BadPrice T) (xc_Lost T) (xc_NotHung T) (xc_NothingToUndo T) (xc_TooMany T) (xc_Unlike T)
  have cm := ok__law_made T cl (xc_BadFlag T) (xc_BadName T) (xc_BadNumber T) (xc_BadText T) (xc_BadWalk T) (xc_NoHook T) (xc_NoStreet T)
  have ck := ok__law_kinds T (xc_BadFlag T) (xc_BadForm T) (xc_BadLetter T) (xc_BadName T) (xc_BadNumber T) (xc_BadPrice T) (xc_BadText T) (xc_BadWalk T) (xc_Lost T) (xc_NoHook T) (xc_NoStreet T) (xc_NotHung T) (xc_NothingToUndo T) (xc_TooMany T) (xc_Unlike T)
  exact ok_law T ck cm (ok__law_pen T) (ok__law_worth T cd cp) (exs_all T)
theorem law_end {K : PySem.W.Frag} {H : Hp} {a : Addr} {ns : List Int} (hl : ns.length ≤ 63) (ho : Only H) (hS : SqL K H a (ns.map V.int)) : spLaw K [.ref a] H (fun v _ => v = .bl true) fun _ _ _ => False := ⟨a, ns, rfl, hS, fun _ => rfl⟩
theorem facts {w : World} {K : PySem.W.Frag} {h : Heap} {mg : Str → Option Value} {f : Addr} (KX : K.In h) (G : h.Ns mainGlobals mg) (hfa : mg ("law" : Str) = some (.ref f)) (c : BX.SaysB "/claim/cut.py" fa fn xs tf ex w h K) :
    ∃ (K : PySem.W.Frag) (fd : FuncData) (sp : Sp), K.In h ∧ (∀ (s : Shared) (u : Value), BindsTo s fd ⟨[u], []⟩ [("_law_script", u)]) ∧
        (∀ (H : Hp) (a : Addr) (ns : List Int), ns.length ≤ 63 → Only H → SqL K H a (ns.map V.int) → sp [.ref a] H (fun v _ => v = .bl true) fun _ _ _ => False) ∧
        ∀ base : Heap, K.In base → base.Ns mainGlobals mg → FnOk Pg w K mg base CX0 5 f fd ["_law_script"] sp := by
  obtain ⟨fd, hb, hF⟩ := BX.law_fd (P := Pg) (CX := CX0) (ps := ["_law_script"]) (k := 5) (sp := (spLaw K)) KX G hfa c 7 7 rfl rfl rfl rfl (fun _ _ _ _ _ _ us hl => match us, hl with | [_], _ => rfl) fun base T => cal_law T
  exact ⟨K, fd, _, KX, fun s u => hb s [u] rfl, fun H a ns hl ho hS => law_end hl ho hS, hF⟩
end B0
open PySem PySem.W PySem.Calls PyProof.Rows
theorem PySem.Challenge.cw_bunting_k00_errors_made_from_their_field_holds : PySem.Challenge.rw_bunting_k00_errors_made_from_their_field.Holds := by
  w_on; o_law
  refine HandSHeadRun.head_any (r := OpenLaw.row PySem.Challenge.rw_bunting_k00_errors_made_from_their_field) (q := view (OpenLaw.row PySem.Challenge.rw_bunting_k00_errors_made_from_their_field).prog [25]) (H := B0.hk) (ob := B0.ob) (M := 8000) (loose := B0.loose) (d := HandSHeadRun.topDef (OpenLaw.row PySem.Challenge.rw_bunting_k00_errors_made_from_their_field).prog 25) (kwd := []) B0.ob_eq
    (by kernel_rfl) (fun s => by kernel_rfl) B0.run (by kernel_rfl) (by kernel_rfl) (by kernel_rfl) (by rfl) (by first | assumption | decide +kernel) (by decide +kernel) ⟨rfl, rfl, rfl, rfl, rfl, by decide +kernel⟩ ?hw ?hc
  case hw => w_witness2
  case hc =>
    refine L2.walk_ofE (l := PySem.Challenge.rw_bunting_k00_errors_made_from_their_field) (n := 63) (k := 5) (x := "_law_script") (CX := L2.CX0) rfl (by decide) (by kernel_rfl) ⟨rfl, by decide, by decide⟩ ?F (fun _ _ _ z => by first | exact z.elim | exact fun e => e.elim)
    intro w mg fa h Y G hmg0
    obtain ⟨K, KX, c⟩ := Y
    have hmg : mg ("law" : PySem.Str) = some (.ref fa) := by
      have e : (HandSHeadRun.topDef (OpenLaw.row PySem.Challenge.rw_bunting_k00_errors_made_from_their_field).prog 25).name = ("law" : PySem.Str) := by kernel_rfl
      rw [← e]
      exact hmg0
    exact B0.facts KX G hmg c
