import PyProof.Rows.All
import Wide.All
import OpenK.AllK
import Wide.FinOn
import KE.KStateDown
import Lean
import KE.KExcSuper
import KE.KSuper
import HandS.ExcInit
import HandS.Head0
import HandS.Head1
import HandS.Head2
import HandS.HeadEnd
import HandS.HeadHook1
import HandS.HeadHook2
import HandS.HeadHook3
import HandS.ForMost
import HandS.ForExc
import HandS.TupSets
import HandS.Strs
import KE.KeyNested
import KE.SortData
import KE.DataCmp
import HandS.Walk
import KE.GoesEnum
import KE.GoesZip
import KE.GoesMore
import HandS.More
import HandS.Dict
import HandS.Replace
import HandS.ReplaceLit
import HandS.ReplaceDef
import PyProof.DictCopy
import HandS.IsInst
import HandS.Flow
import HandS.FStr
import HandS.StrMore
import HandS.StrSplit
import HandS.ReplaceList
import HandS.CallSlots
import PySem.Challenge.RW_turnsneeded_k23_whole_long_desks_undone
set_option Elab.async false
set_option linter.all false
set_option maxRecDepth 100000
set_option maxHeartbeats 4000000
/-! An own error whose __init__ says super().__init__('..') first, its class over an own class over ValueError. -/
namespace L2.Dk
open PySem PySem.Spec PyProof.Rows
open PySem.W (Frag Looks findIn typeIn keepIn subIn clsIn codeIn nsIn ks_superIn ksFn ksEnv mroIn)
/-- what is known of the class at C and of its __init__ at fI (its code at cda, its cell at cc); st the def's text -/
structure ErrC (K : Frag) (P : Program) (C fI cc cda : Addr) (st : Stmt) (qual : Str) : Prop where
  cls : ∃ nm q N bs bm sn sub ab col dd k0 k1 k2 k3 k5, K.lookup C = some (excClassObj nm q C N bs bm true sn sub ab col dd k0 k1 k2 k3 k5 "ValueError.__new__") ∧ PySem.HandSPX.refsVE bm = true
  sa : findIn K (.ref C) "__setattr__" = some (some (.builtin "object.__setattr__"))
  iC : findIn K (.ref C) "__init__" = some (some (.ref fI))
  tC : typeIn K (.ref fI) = some (.type "function")
  kC : keepIn K (.ref C) = true
  exC : subIn K (.ref C) (.type "BaseException") = some true
  veC : subIn K (.ref C) (.type "ValueError") = some true
  tyC : typeIn K (.ref C) = some (.type "type")
  fn : ∃ (oc : Value) (od : Option Addr) (kV doc pm : Value) (an : Option Addr) (ct : Value) (osl : Array (Option Value)),
    K.lookup fI = some ⟨oc, od, .func (ksFn "__init__" qual (defArgs st) (defBody st) (defScope st) .none kV doc pm an (.ref cda) ct cc), osl⟩ ∧ codeIn K (.ref cda) qual = true
  code : ∃ (ccl : Value) (cdd : Option Addr) (vs : Array Value) (ccs : Array (Option Value)) (file : Str) (tf : Tok), K.lookup cda = some ⟨ccl, cdd, .fields vs, ccs⟩ ∧ vs[2]? = some (.str file tf) ∧ ((P.main.file : Str) == file) = true
  cell : ∃ (cl : Value) (cld : Option Addr) (csl : Array (Option Value)), K.lookup cc = some ⟨cl, cld, .cell (some (.ref C)), csl⟩
  nosup : nsIn K mainGlobals "super" = some none
  opq : nsIn K cStatics "thirdparty.any" = some none
  sup : ks_superIn K C C "__init__" = some (some (.builtin "ValueError.__init__"))
  self : mroIn K C (.ref C) = some true
  top : (P.main.scope.names.lookup ("super" : Str)).isSome = false
abbrev mwO (x : Addr) : Obj := PySem.W.kxs_mw "ValueError.__init__" x
section
variable {P : Program} {w : World} {A : Around} {E : Value → Shared → Prop} {K : Frag} {mg : Str → Option Value} {C fI cc cda : Addr} {st : Stmt} {qual : Str}
/-- the bound built-in __init__, called -/
theorem mw_call {u x t0 : Addr} {rest : List Value} {h : Heap} {g : Array GenState} {d : Drawn} {tk : Nat} {os : OsState} {Q : Value → Shared → Prop} (T : ErrC K P C fI cc cda st qual) (X : K.In h) (hu : h.get? u = some (mwO x)) (hx : h.get? x = some (PySem.HandSPX.excO C t0)) (hz : rest.length ≤ sizeLine)
    (hq : ∀ h', (∀ b o, b ≠ x → h.get? b = some o → h'.get? b = some o) → h'.get? x = some (PySem.HandSPX.excO C h.objs.size) → Q .none ⟨h', g, d, tk, os⟩) :
    wpAny (model P w) A (call (.ref u) rest) Q E ⟨h, g, d, tk, os⟩ := by
  obtain ⟨nm, q, N, bs, bm, sn, sub, ab, col, dd, k0, k1, k2, k3, k5, hC, hbm⟩ := T.cls
  refine wpAny_call (codeAny_of_tree ?_)
  show wpAny _ A.in1 (callAny (.ref u) ⟨rest, []⟩) _ _ _
  simp only [callAny]
  refine wpAny_bind (wpAny_load hu ?_)
  simp only [mwO, PySem.W.kxs_mw, show (Value.type "method-wrapper" == Value.type "method" || Value.type "method-wrapper" == Value.type "builtin_function_or_method" || Value.type "method-wrapper" == Value.type "method-wrapper") = true by decide, if_true]
  refine PySem.W.KFB.if_so (by decide) ?_
  refine wpAny_bind (PySem.W.check_bound_init F.excBase_ValueError.toExcCallFacts (X _ _ hC) hx rfl ?_)
  refine wpAny_bind (wpAny_pure (wpAny_pure ?_))
  refine ⟨plainId_quiet F.excBase_ValueError.init.plain _, codeAny_builtin F.excBase_ValueError.initEntry ?_⟩
  exact PySem.W.exc_init_tree (cls := .ref C) (t0 := t0) (dv := none) (c2 := .none) (c3 := .none) (b4 := .bool false) hx hz fun h' k e' _ => hq h' k e'
/-- super().__init__('..') as the first statement -/
theorem err_super {body rest : List Stmt} {text : Str} {j : Nat} {p0 p1 p2 p3 p4 p5 : Pos} {scope : Scope} {L x t0 : Addr} {m mb : Str → Option Value} {h : Heap} {g : Array GenState} {d : Drawn} {tk : Nat} {os : OsState} {Q : Flow → Shared → Prop}
    (T : ErrC K P C fI cc cda st qual) (hst : scope = defScope st) (hself : (((defArgs st).posonlyargs ++ (defArgs st).args).head?).map (·.arg) = some ("self" : Str)) (X : K.In h) (G : h.Ns mainGlobals mg) (Gb : h.Ns builtinsNs mb) (gs : mg "super" = none) (gb : mb "super" = some (.type "super"))
    (hx : h.get? x = some (PySem.HandSPX.excO C t0)) (hnx : x ≠ C) (hkx : K.lookup x = none) (hn : h.Ns L m) (hv : m "self" = some (.ref x))
    (hks : scope.names.lookup ("super" : Str) = some .globalImplicit) (hkc : scope.names.lookup ("__class__" : Str) = some .free) (hka : scope.names.lookup ("self" : Str) = some .local) (hk : scope.kind = .function) {pl : Sem Bool}
    (he : eval (.Call (.Attribute (.Call (.Name "super" p0) [] [] p1) "__init__" p2) [.Constant (.str text) j p3] [] p4) (ksEnv qual scope L fI (.ref cda) cc) = (do
      let ov ← attributeBase (.Call (.Name "super" p0) [] [] p1) "__init__" (ksEnv qual scope L fI (.ref cda) cc) (eval (.Call (.Name "super" p0) [] [] p1) (ksEnv qual scope L fI (.ref cda) cc))
      standAt p2.atName
      let (f, first) ← holding [ov] (getMethod ov "__init__" pl)
      callWith p4 f first (backTo p4 (starEach [.Constant (.str text) j p3] (ksEnv qual scope L fI (.ref cda) cc))) []))
    (hsw : swapsWith (.Call (.Attribute (.Call (.Name "super" p0) [] [] p1) "__init__" p2) [.Constant (.str text) j p3] [] p4) none p5.line (ksEnv qual scope L fI (.ref cda) cc) = pure false)
    (hq : ∀ h' t1 tk', (∀ b o, b ≠ x → h.get? b = some o → h'.get? b = some o) → h'.get? x = some (PySem.HandSPX.excO C t1) → wpAny (model P w) A (execs rest (ksEnv qual scope L fI (.ref cda) cc)) Q E ⟨h', g, d, tk', os⟩) :
    _root_.PySem.wpAt (model P w) A (.func body (ksEnv qual scope L fI (.ref cda) cc)) (execs (.Expr (.Call (.Attribute (.Call (.Name "super" p0) [] [] p1) "__init__" p2) [.Constant (.str text) j p3] [] p4) p5 :: rest) (ksEnv qual scope L fI (.ref cda) cc)) Q E ⟨h, g, d, tk, os⟩ := by
  obtain ⟨oc, od, kV, doc, pm, an, ct, osl, ho, hcd⟩ := T.fn
  obtain ⟨ccl, cdd, vs, ccs, file, tf, hcode, hvs, hfile⟩ := T.code
  obtain ⟨cl, cld, csl, hcell⟩ := T.cell
  obtain ⟨nm, q, N, bs, bm, sn, sub, ab, col, dd, k0, k1, k2, k3, k5, hC, hbm⟩ := T.cls
  obtain ⟨ar, har, hara⟩ : ∃ ar, ((defArgs st).posonlyargs ++ (defArgs st).args).head? = some ar ∧ ar.arg = ("self" : Str) := by
    cases e : ((defArgs st).posonlyargs ++ (defArgs st).args).head? with
    | none => rw [e] at hself; cases hself
    | some ar => rw [e] at hself; exact ⟨ar, rfl, Option.some.inj hself⟩
  refine ks_wpAt_execs_cons (ks_wpAt_Expr_any ?_ (by simp [interactive, hk]) hsw)
  refine ks_wpAt_MethodCall ?_ he
  refine ks_wpAt_super_base (env := ksEnv qual scope L fI (.ref cda) cc) hks hkc rfl rfl (X _ _ ho) rfl har rfl (X _ _ hcode) rfl hvs hfile T.top ?_
  refine PySem.W.ks_loadName_global hk hks (Calls.loadGlobal_builtin (env := ksEnv qual scope L fI (.ref cda) cc) G gs Gb gb ⟨rfl, ?_⟩)
  refine wpAny_loadName_free hk hkc rfl ⟨_, X _ _ hcell, rfl⟩ ?_
  rw [hara]
  refine wpAny_loadName_local hk hka hn hv ?_
  refine ks_wpAny_isType_cls (X _ _ hC) rfl ⟨rfl, ?_⟩
  refine ks_wpAny_call_super (X _ _ hC) rfl hx rfl (fun c e => by cases e) (PySem.W.looks_mroIn X T.self) fun h1 e1 kp1 => ?_
  have X1 : K.In h1 := X.keeps kp1
  have hx1 := kp1 _ _ hx
  have hcl : clsIn K C = some { name := nm, bases := bs, mro := .ref C :: bm, ns := N, qualname := q, hasDict := true, slotNames := sn, subclasses := sub, abstract := ab, collection := col, hasDel := false } := by unfold clsIn; rw [hC] <;> rfl
  have sup : PySem.W.alongIn K "__init__" (((.ref C :: bm : List Value).dropWhile (· != .ref C)).drop 1) = some (some (.builtin "ValueError.__init__")) := by
    have z := T.sup
    unfold ks_superIn at z
    rw [hcl] at z
    exact z
  have ty1 : Looks (model P w) h1 (typeOf (.ref x)) (.ref C) := PySem.W.InstAt.type (ox := PySem.HandSPX.excO C t0) (od := none) ⟨hx1, rfl, rfl, trivial⟩
  have hI : Looks (model P w) h1 (isInstance (.ref x) (.type "ValueError")) true := ty1.andThen (PySem.W.looks_subIn X1 T.veC)
  refine PySem.W.kxs_getMethod PySem.W.kxs_ValueError e1 (PySem.W.looks_opaque X1 T.opq) (l₀ := .ref C :: bm) ?_ rfl X1 sup hI hnx rfl ?_
  · exact fun A Q E s k q => wpAny_bind ((PySem.W.looks_clsIn X1 hcl) A _ E s k (wpAny_pure q))
  have kp2 : ∀ b o, h1.get? b = some o → (h1.push (mwO x)).get? b = some o := fun b o e => Heap.get?_push_of_some _ e
  have hu : (h1.push (mwO x)).get? h1.objs.size = some (mwO x) := Heap.get?_push_size _ rfl
  show wpAny _ _ (callWith p4 (.ref h1.objs.size) [] ((false, eval (.Constant (.str text) j p3) (ksEnv qual scope L fI (.ref cda) cc)) :: []) []) _ _ _
  refine PySem.W.kxs_callWith (i := "ValueError.__init__") (x := x) rfl (Calls.evalArgs_plain (Calls.spliced_cons (Calls.Constant_str (Calls.spliced_nil ⟨hu, ?_⟩))))
  refine mw_call T (X1.keeps kp2) hu (kp2 _ _ hx1) (by show 1 ≤ sizeLine; rw [sizeLine_eq]; omega) fun h' k' e' => ?_
  exact wpAt_of_wpAny (hq h' _ _ (fun b o hb e => k' b o hb (kp2 _ _ (kp1 _ _ e))) e')
end
end L2.Dk
set_option Elab.async false
set_option linter.all false
set_option maxRecDepth 100000
set_option maxHeartbeats 4000000
/-! Own errors, made and raised: without a field, with one. -/
namespace L2.Dk
open PySem PySem.Spec PyProof.Rows
open PySem.W (Frag Looks findIn typeIn keepIn subIn clsIn codeIn nsIn ks_superIn ksFn ksEnv mroIn)
abbrev supE (text : Str) (j : Nat) (p0 p1 p2 p3 p4 : Pos) : Expr := .Call (.Attribute (.Call (.Name "super" p0) [] [] p1) "__init__" p2) [.Constant (.str text) j p3] [] p4
abbrev supTree (text : Str) (j : Nat) (p0 p1 p2 p3 p4 : Pos) (pl : Sem Bool) (env : Env) : Prop := eval (supE text j p0 p1 p2 p3 p4) env = (do
      let ov ← attributeBase (.Call (.Name "super" p0) [] [] p1) "__init__" env (eval (.Call (.Name "super" p0) [] [] p1) env)
      standAt p2.atName
      let (f, first) ← holding [ov] (getMethod ov "__init__" pl)
      callWith p4 f first (backTo p4 (starEach [.Constant (.str text) j p3] env)) [])
/-- the text of such an __init__, as it is asked -/
structure ErrS (P : Program) (st : Stmt) (qual : Str) (names : List Str) (text : Str) (rest : List Stmt) : Prop where
  body : ∃ j p0 p1 p2 p3 p4 p5 pl, defBody st = .Expr (supE text j p0 p1 p2 p3 p4) p5 :: rest ∧
    ∀ env : Env, (env.scope = defScope st) → supTree text j p0 p1 p2 p3 p4 pl env ∧ swapsWith (supE text j p0 p1 p2 p3 p4) none p5.line env = pure false
  self : (((defArgs st).posonlyargs ++ (defArgs st).args).head?).map (·.arg) = some ("self" : Str)
  sup : (defScope st).names.lookup ("super" : Str) = some .globalImplicit
  cls : (defScope st).names.lookup ("__class__" : Str) = some .free
  slf : (defScope st).names.lookup ("self" : Str) = some .local
  kind : (defScope st).kind = .function
  nocell : ∀ x ∈ (defScope st).names, x.2 ≠ .cell
  co : (defScope st).isCoroutine = false
  gen : (defScope st).isGenerator = false
  locs : ∀ y ∈ names, (defScope st).names.lookup y = some .local
  first : ∃ r : List Str, names = ("self" : Str) :: r ∧ ("self" : Str) ∉ r
  bind : ∀ (kV doc pm : Value) (an : Option Addr) (cd ct : Value) (cc : Addr) (us : List Value), us.length = names.length → bindArgs (PySem.W.fnX "__init__" qual (defArgs st) (defBody st) (defScope st) [("__class__", cc)] .none kV doc pm an cd ct) ⟨us, []⟩ = pure (names.zip us)
section
variable {P : Program} {w : World} {A : Around} {E : Value → Shared → Prop} {K : Frag} {mg : Str → Option Value} {C fI cc cda : Addr} {st : Stmt} {qual text : Str} {names : List Str} {rest : List Stmt}
theorem zip_rev_lookup {x : Str} {v : Value} : ∀ {ns : List Str} {us : List Value}, x ∉ ns → ((x :: ns).zip (v :: us)).reverse.lookup x = some v := by
  intro ns us h
  have key : ∀ (l : List (Str × Value)), (∀ p ∈ l, p.1 ≠ x) → (l ++ [(x, v)]).lookup x = some v := by
    intro l
    induction l with
    | nil => intro _; simp [List.lookup]
    | cons p l ih =>
      intro hp
      obtain ⟨y, z⟩ := p
      have ne : (x == y) = false := by
        have q := hp (y, z) List.mem_cons_self
        simpa using fun e : x = y => q e.symm
      show (match x == y with | true => some z | false => (l ++ [(x, v)]).lookup x) = some v
      rw [ne]
      exact ih fun q hq => hp q (List.mem_cons_of_mem _ hq)
  show (((x, v) :: ns.zip us).reverse).lookup x = some v
  rw [List.reverse_cons]
  refine key _ fun p hp e => h ?_
  have q := List.of_mem_zip (List.mem_reverse.mp hp)
  rw [← e]
  exact q.1
/-- the whole __init__ up to what follows super().__init__ -/
theorem err_init {x t0 : Addr} {us : List Value} {s : Shared} {mb : Str → Option Value} {R : Result → Shared → Prop} (T : ErrC K P C fI cc cda st qual) (S : ErrS P st qual names text rest) (X : K.In s.heap) (G : s.heap.Ns mainGlobals mg) (Gb : s.heap.Ns builtinsNs mb) (gs : mg "super" = none) (gb : mb "super" = some (.type "super"))
    (hlim : s.heap.NoLimit) (hx : s.heap.get? x = some (PySem.HandSPX.excO C t0)) (hkx : K.lookup x = none) (hroom : A.depth < recursionLimit) (hlen : (.ref x :: us : List Value).length = names.length)
    (hq : ∀ (h' : Heap) (t1 : Addr) (tk' : Nat), (∀ b o, b ≠ x → s.heap.get? b = some o → h'.get? b = some o) → h'.get? x = some (PySem.HandSPX.excO C t1) → h'.Ns s.heap.objs.size (fun y => (names.zip (.ref x :: us)).reverse.lookup y) → s.heap.objs.size < h'.objs.size →
      wpAny (model P w) (A.deeper (ksEnv qual (defScope st) s.heap.objs.size fI (.ref cda) cc)) (execs rest (ksEnv qual (defScope st) s.heap.objs.size fI (.ref cda) cc)) (fun f s' => R (.ok (.ret (match f with | .ret v => v | _ => .none))) s')
        (fun e s' => wpAny (model P w) (A.deeper (ksEnv qual (defScope st) s.heap.objs.size fI (.ref cda) cc)) (leaving (ksEnv qual (defScope st) s.heap.objs.size fI (.ref cda) cc) e) (fun _ s'' => R (.error e) s'') (fun e' s'' => R (.error e') s'') s') { s with heap := h', toks := tk' }) :
    codeAny (model P w) A (.call (.ref fI) ⟨.ref x :: us, []⟩) R s := by
  obtain ⟨oc, od, kV, doc, pm, an, ct, osl, ho, hcd⟩ := T.fn
  obtain ⟨j, p0, p1, p2, p3, p4, p5, pl, hb, htree⟩ := S.body
  obtain ⟨r, er, hr⟩ := S.first
  have hC : ∃ oC, K.lookup C = some oC := by
    obtain ⟨nm, q, N, bs, bm, sn, sub, ab, col, dd, k0, k1, k2, k3, k5, hC, hbm⟩ := T.cls
    exact ⟨_, hC⟩
  have hnx : x ≠ C := fun z => by
    obtain ⟨oC, hC⟩ := hC
    rw [z, hC] at hkx
    cases hkx
  refine ks_codeAny_call_defAt (fd := ksFn "__init__" qual (defArgs st) (defBody st) (defScope st) .none kV doc pm an (.ref cda) ct cc) (body := defBody st) (binds := names.zip (.ref x :: us)) hroom (X _ _ ho) rfl hlim (PySem.W.codeRec_of X hcd) rfl
    (BindsTo.of_eq (S.bind kV doc pm an (.ref cda) ct cc _ hlen)) S.nocell (fun y hy => S.locs y.1 (List.of_mem_zip hy).1) (fun h1 hns hk1 => ?_) S.co S.gen S.kind
  rw [hb]
  show _root_.PySem.wpAt (model P w) (A.deeper (ksEnv qual (defScope st) s.heap.objs.size fI (.ref cda) cc)) (.func _ (ksEnv qual (defScope st) s.heap.objs.size fI (.ref cda) cc)) _ _ _ ⟨h1, s.gens, s.drawn, _, s.os⟩
  have hx1 := hk1 _ _ hx
  obtain ⟨ht, hsw⟩ := htree (ksEnv qual (defScope st) s.heap.objs.size fI (.ref cda) cc) rfl
  have hv : (names.zip (.ref x :: us)).reverse.lookup ("self" : Str) = some (.ref x) := by
    rw [er]
    exact zip_rev_lookup hr
  have hLx : s.heap.objs.size ≠ x := Nat.ne_of_gt (Heap.lt_size hx)
  refine err_super T rfl S.self (X.keeps hk1) (G.keeps hk1) (Gb.keeps hk1) gs gb hx1 hnx hkx hns hv S.sup S.cls S.slf S.kind ht hsw fun h' t1 tk' k e => ?_
  obtain ⟨oL, es, ep, hoL, rL⟩ := id hns
  have hoL' := k _ _ hLx hoL
  exact hq h' t1 tk' (fun b o hb e => k b o hb (hk1 b o e)) e ⟨oL, es, ep, hoL', rL⟩ (Heap.lt_size hoL')
end
section
variable {X : Cx} {C fI cc cda : Addr} {st : Stmt} {qual text : Str}
theorem err_new {h : Heap} {K : Frag} (k : K.In h) (n : Nat) : K.lookup (h.objs.size + n) = none := by
  cases e : K.lookup (h.objs.size + n) with
  | none => rfl
  | some o => exact absurd (Nat.lt_of_le_of_lt (Nat.le_add_right _ _) (Heap.lt_size (k _ _ e))) (Nat.lt_irrefl _)
/-- Name() of an error without fields -/
theorem pmk_err0 {x : Str} {p pos : Pos} {k : Nat} (T : ErrC X.K X.prog C fI cc cda st qual) (S : ErrS X.prog st qual ["self"] text []) (gC : X.mg x = some (.ref C)) (gs : X.mg "super" = none) (hr : Room k X.A) (hg : Gl X x) (hdb : (x == ("__debug__" : Str)) = false := by decide) :
    PMk X (.Call (.Name x p) [] [] pos) (fun _ H Q => Q (.ref C) none H) := by
  intro pins s σ H Q I h
  obtain ⟨nm, q, N, bs, bm, sn, sub, ab, col, dd, k0, k1, k2, k3, k5, hC, hbm⟩ := T.cls
  obtain ⟨mb, hB, hB2⟩ := I.mod.blt
  refine wpAny_Call_Name_kw (ld_glob I hg gC ?_ hdb)
  refine PySem.W.callWith_K0 I.kIn T.kC ?_
  have kin := I.kIn
  have G := I.mod.glob.keeps I.bk
  have Gb := hB.keeps I.bk
  have hlim := I.nolimit
  have hd1 := hr.dp
  obtain ⟨hp, g, d, tk, os⟩ := s
  have kk : ∀ b o, hp.get? b = some o → ((hp.push (PySem.W.kdv_tup [])).push (PySem.HandSPX.excO C hp.objs.size)).get? b = some o := fun b o e => Heap.get?_push_of_some _ (Heap.get?_push_of_some _ e)
  have hget : ((hp.push (PySem.W.kdv_tup [])).push (PySem.HandSPX.excO C hp.objs.size)).get? (hp.objs.size + 1) = some (PySem.HandSPX.excO C hp.objs.size) := by heap_get
  refine wpAny_call (PySem.HandSPX.call_own F.excBase_ValueError (fun Y => PySem.HandSPX.refsVE_contains Y bm hbm) (kin _ _ hC) (PySem.W.looks_findIn kin T.iC) (fun self => PySem.W.bind_fn kin self T.tC) (by show 0 ≤ sizeLine; exact Nat.zero_le _) ?_)
  refine err_init (names := ["self"]) (us := []) T S (kin.keeps kk) (G.keeps kk) (Gb.keeps kk) gs ((hB2 _ (by decide +kernel)).trans (by decide +kernel)) (hlim.keeps kk) hget (err_new (k := kin) 1) (by show _ < _; rw [make_depth]; omega) rfl fun h' t1 tk' k1 e1 hn hsz => ?_
  refine wpAny_execs_nil ⟨rfl, ?_⟩
  have old : ∀ b o, hp.get? b = some o → h'.get? b = some o := fun b o e => k1 b o (Nat.ne_of_lt (Nat.lt_succ_of_lt (Heap.lt_size e))) (kk b o e)
  exact ⟨hp.objs.size + 1, _, _, ⟨hp, g, d, tk, os⟩, H, .ref C, none, rfl, I, old, Heap.get?_none_of_le (Nat.le_succ _), e1, ⟨rfl, rfl⟩, rfl, rfl, I.hok.fresh (Nat.le_succ _), rfl, I.bare, raises_own T.exC T.tyC, h⟩
/-- Name(e), the error's one field f holding e's value -/
def tMkE (C : Addr) (f : Str) (ta : TA) : St → Hp → XK → Prop := fun σ H Q => ta σ H fun vs H1 => ∃ v, vs = [v] ∧ ∀ d, H1 d = none → Q (.ref C) (some d) (upd H1 d (.xd [(f, v)]))
theorem relO_one {f : Str} {v : V} {v' : Value} (r : RelV v v') (g : Str) : RelO (List.lookup g [(f, v)]) (if g = f then some v' else none) := by
  by_cases hw : g = f
  · subst hw
    rw [if_pos rfl]
    have q : List.lookup g [(g, v)] = some v := by simp [List.lookup]
    rw [q]
    exact r
  · rw [if_neg hw]
    have qw : (g == f) = false := by simpa using hw
    have q2 : List.lookup g [(f, v)] = none := by simp [List.lookup, qw]
    rw [q2]
    trivial
theorem pmk_err1 {x f : Str} {e : Expr} {ta : TA} {p pos q1 q2 q3 q4 : Pos} {k : Nat} (T : ErrC X.K X.prog C fI cc cda st qual) (S : ErrS X.prog st qual ["self", f] text [.Assign [.Attribute (.Name "self" q1) f q2] (.Name f q3) q4]) (hno : PySem.W.findIn X.K (.ref C) f = some none)
    (gC : X.mg x = some (.ref C)) (gs : X.mg "super" = none) (hr : Room k X.A) (ha : PA X [e] ta) (hg : Gl X x) (hfs : f ≠ "self") (hfd : (f == ("__debug__" : Str)) = false) (hdb : (x == ("__debug__" : Str)) = false := by decide)
    (he : starEach (e :: []) X.env = (false, eval e X.env) :: starEach [] X.env := by rfl) (hpl : (backTo pos (starEach [] X.env)).any (·.1) = false := by rfl) :
    PMk X (.Call (.Name x p) [e] [] pos) (tMkE C f ta) := by
  intro pins s σ H Q I h
  obtain ⟨nm, q, N, bs, bm, sn, sub, ab, col, dd, k0, k1, k2, k3, k5, hC, hbm⟩ := T.cls
  have hcl : clsIn X.K C = some { name := nm, bases := bs, mro := .ref C :: bm, ns := N, qualname := q, hasDict := true, slotNames := sn, subclasses := sub, abstract := ab, collection := col, hasDel := false } := by unfold clsIn; rw [hC] <;> rfl
  refine wpAny_Call_Name_kw (ld_glob I hg gC ?_ hdb)
  refine PySem.W.callWith_K (h₀ := X.base) I.ok.mod.kin T.kC (thn (ha.run pos pins s σ H _ I h) fun us s1 hh => ?_) he hpl
  obtain ⟨vs, H1, I1, r1, v, ev, q1'⟩ := hh
  subst ev
  refine ⟨I1.kIn, ?_⟩
  cases r1 with
  | cons rv rn =>
    rename_i v' us'
    cases rn
    show wpAny _ _ (call (.ref C) [v']) _ _ _
    obtain ⟨mb, hB, hB2⟩ := I1.mod.blt
    have kin := I1.kIn
    have G := I1.mod.glob.keeps I1.bk
    have Gb := hB.keeps I1.bk
    have hlim := I1.nolimit
    have hd1 := hr.dp
    obtain ⟨hp, g, d, tk, os⟩ := s1
    have kk : ∀ b o, hp.get? b = some o → ((hp.push (PySem.W.kdv_tup [v'])).push (PySem.HandSPX.excO C hp.objs.size)).get? b = some o := fun b o e => Heap.get?_push_of_some _ (Heap.get?_push_of_some _ e)
    have hget : ((hp.push (PySem.W.kdv_tup [v'])).push (PySem.HandSPX.excO C hp.objs.size)).get? (hp.objs.size + 1) = some (PySem.HandSPX.excO C hp.objs.size) := by heap_get
    refine wpAny_call (PySem.HandSPX.call_own F.excBase_ValueError (fun Y => PySem.HandSPX.refsVE_contains Y bm hbm) (kin _ _ hC) (PySem.W.looks_findIn kin T.iC) (fun self => PySem.W.bind_fn kin self T.tC) (by show 1 ≤ sizeLine; rw [sizeLine_eq]; omega) ?_)
    refine err_init (names := ["self", f]) (us := [v']) T S (kin.keeps kk) (G.keeps kk) (Gb.keeps kk) gs ((hB2 _ (by decide +kernel)).trans (by decide +kernel)) (hlim.keeps kk) hget (err_new (k := kin) 1) (by show _ < _; rw [make_depth]; omega) rfl fun h' t1 tk' k1 e1 hn hsz => ?_
    have old : ∀ b o, hp.get? b = some o → h'.get? b = some o := fun b o e => k1 b o (Nat.ne_of_lt (Nat.lt_succ_of_lt (Heap.lt_size e))) (kk b o e)
    have fl : (defScope st).names.lookup f = some .local := S.locs f (by simp)
    have nself : ((("self" : Str) == f)) = false := by simpa using fun z : ("self" : Str) = f => hfs z.symm
    have lf : ((([("self", f)] : List (Str × Str)).map fun _ => ()).length = 1) := rfl
    have hvf : ((["self", f] : List Str).zip [Value.ref (hp.objs.size + 1), v']).reverse.lookup f = some v' := by
      show List.lookup f [(f, v'), (("self" : Str), Value.ref (hp.objs.size + 1))] = some v'
      simp [List.lookup]
    have hvs : ((["self", f] : List Str).zip [Value.ref (hp.objs.size + 1), v']).reverse.lookup ("self" : Str) = some (.ref (hp.objs.size + 1)) := by
      show List.lookup ("self" : Str) [(f, v'), (("self" : Str), Value.ref (hp.objs.size + 1))] = _
      simp [List.lookup, nself]
    refine wpAny_execs_cons (plainObj_wpAny_Assign_Attribute ?_)
    refine wpAny_Name (wpAny_loadName_local S.kind fl hn hvf ?_) hfd
    refine wpAny_Name (wpAny_loadName_local S.kind S.slf hn hvs ?_) (by decide)
    refine PySem.W.set_plain (kin.keeps old) (ox := PySem.HandSPX.excO C t1) (od := none) ⟨e1, rfl, rfl, trivial⟩ T.sa ?_
    refine PySem.HandSPX.exc_osa (kin.keeps old) e1 hcl (show PySem.HandSPX.refsVE (.ref C :: bm) = true from hbm) rfl hno (fun h3 tk3 dx k3 dn dne hx3 hn3 => ?_)
    refine wpAny_execs_nil ⟨rfl, ?_⟩
    show MkP X pins σ Q (.ref (hp.objs.size + 1)) ⟨h3, g, d, tk3, os⟩
    have ne1 : ∀ b o, hp.get? b = some o → b ≠ hp.objs.size + 1 := fun b o e => Nat.ne_of_lt (Nat.lt_succ_of_lt (Heap.lt_size e))
    have dbig : hp.objs.size ≤ dx := by
      have z1 : hp.objs.size + 1 < h'.objs.size := Heap.lt_size e1
      have z2 : h'.objs.size ≤ dx := dn
      omega
    obtain ⟨G', g1, g2⟩ := restrict h3 fun b => decide (b ≠ hp.objs.size + 1)
    have gk : ∀ b, b ≠ hp.objs.size + 1 → G'.get? b = h3.get? b := fun b hb => g1 b (decide_eq_true hb)
    have ge : G'.get? (hp.objs.size + 1) = none := g2 _ (by simp)
    have oldG : ∀ b o, hp.get? b = some o → G'.get? b = some o := fun b o e => (gk b (ne1 b o e)).trans (k3 b o (ne1 b o e) (old b o e))
    have ob : ObjOk X.prog X.w (upd H1 dx (.xd [(f, v)])) G' dx (.xd [(f, v)]) := ⟨_, hn3.at (fun o q => (gk dx dne).trans q), fun g => relO_one rv g⟩
    have J : Inv X pins σ (upd H1 dx (.xd [(f, v)])) ⟨G', g, d, tk3, os⟩ := I1.laid (t' := tk3) oldG dbig ob
    refine ⟨hp.objs.size + 1, _, _, ⟨G', g, d, tk3, os⟩, _, .ref C, some dx, rfl, J, fun b o q => ?_, ge, hx3, ⟨rfl, rfl⟩, rfl, rfl, ?_, rfl, I1.bare, raises_own T.exC T.tyC, q1' dx (I1.hok.fresh dbig)⟩
    · by_cases hb : b = hp.objs.size + 1
      · have q' : G'.get? b = some o := q
        rw [hb, ge] at q'
        cases q'
      · exact (gk b hb).symm.trans q
    · rw [upd_ne (Ne.symm dne)]
      exact I1.hok.fresh (Nat.le_succ _)
/-- n.f in a suite, n the handled error with its field f -/
def tByE (C : Addr) (f : Str) (a : Addr) (cls : Value) (d : Option Addr) (te : TE) : TE := fun σ H Q => te σ H fun x H1 => x = .ref a ∧ cls = .ref C ∧ ∃ (dd : Addr) (v : V), d = some dd ∧ H1 dd = some (.xd [(f, v)]) ∧ Q v H1
theorem pe_byE {f : Str} {a : Addr} {oe : Obj} {cls : Value} {d : Option Addr} {pn : List (Addr × Obj)} {e : Expr} {te : TE} {pos : Pos} (exC : subIn X.K (.ref C) (.type "BaseException") = some true) (hdC : PySem.W.hasDictIn X.K C = true) (hno : PySem.W.findIn X.K (.ref C) f = some none)
    (ga : findIn X.K (.ref C) "__getattribute__" = some (some (.builtin "BaseException.__getattribute__"))) (gg : findIn X.K (.ref C) "__getattr__" = some none) (hz : Zc cls d oe) (hf : ∃ vs, oe.data = .fields vs) (he : PE (X.suite a ((a, oe) :: pn)) e te)
    (hb : attributeBase e f X.env (eval e X.env) = eval e X.env := by rfl) : PE (X.suite a ((a, oe) :: pn)) (.Attribute e f pos) (tByE C f a cls d te) := by
  refine ⟨fun pins s σ H Q I h => ?_⟩
  refine attr_of hb (thn (he.run pins s σ H _ I h) fun u s1 hh => ?_)
  obtain ⟨x, H1, I1, rx, ex, ec, dd, v, ed, ea, q⟩ := hh
  subst ex
  obtain rfl : u = Value.ref a := rx
  subst ec
  subst ed
  obtain ⟨ha, _⟩ := I1.pin (a, oe) (List.mem_append_left _ List.mem_cons_self)
  obtain ⟨vs, hd⟩ := hf
  have hx : ObjOk X.prog X.w H1 s1.heap dd (.xd [(f, v)]) := I1.hok dd _ ea
  obtain ⟨mA, hns, hr⟩ := hx
  obtain ⟨od, ho, hl⟩ := lookIn_ns hns
  have l : List.lookup f [(f, v)] = some v := by simp [List.lookup]
  obtain ⟨u, hu, ru⟩ := RelO.some_of (v := v) (o := mA f) (by rw [← l]; exact hr f)
  have J : PySem.W.InstAt s1.heap a oe C (some od) := ⟨ha, hz.1, by unfold PySem.W.notCls; rw [hd] <;> rfl, by rw [hz.2]; exact ho⟩
  exact HandSPX.exc_get I1.kIn J ga gg exC (PySem.W.findObj_own hdC hno rfl (by rw [hl, hu])) (handed_of ru) ⟨v, H1, I1.tok _, ru, q⟩
end
end L2.Dk
set_option Elab.async false
set_option linter.all false
set_option maxRecDepth 100000
set_option maxHeartbeats 4000000
/-! The head's facts: functions, a table, own errors. -/
namespace L2.Dk
open PySem PySem.Spec PyProof.Rows
/-- an own error: its name, its __init__'s text -/
structure Er where
  x : Str
  qual : Str
  st : Stmt
  fld : Option Str
abbrev ErV : Type := Option (Str × Str × Arguments × FuncBody × Scope × Addr × Addr × Value)
def erAd (K : PySem.W.Frag) (e : Er) : Addr := He.ma K (He.ga K e.x) "__init__"
def erObs (K : PySem.W.Frag) (e : Er) : ErV := match K.lookup (erAd K e) with
  | some ⟨_, _, .func fd, _⟩ => some (fd.name, fd.qualname, fd.params, fd.body, fd.scope, fd.globals, fd.builtins, fd.defaults)
  | _ => none
def Er.val (e : Er) : ErV := some ("__init__", e.qual, defArgs e.st, .stmts (defBody e.st), defScope e.st, mainGlobals, builtinsNs, .none)
def cellOf (K : PySem.W.Frag) (e : Er) : Addr := match K.lookup (erAd K e) with
  | some ⟨_, _, .func fd, _⟩ => (match fd.closure with
    | [(_, cc)] => cc
    | _ => 0)
  | _ => 0
def codeAd (K : PySem.W.Frag) (e : Er) : Addr := match K.lookup (erAd K e) with
  | some ⟨_, _, .func fd, _⟩ => (match fd.code with
    | .ref c => c
    | _ => 0)
  | _ => 0
/-- the class -/
def erCls (K : PySem.W.Frag) (C : Addr) : Bool := match K.lookup C with
  | some ⟨.type t, dd, .cls ⟨nm, bs, mro, ns, qn, hd, sn, sub, ab, col, del⟩, sl⟩ => decide (t = "type") && (match mro, sl.toList with
    | .ref C' :: bm, [_, _, _, _, some (.builtin n), _] => decide (C' = C) && (hd && (!del && (decide (n = "ValueError.__new__") && PySem.HandSPX.refsVE bm)))
    | _, _ => false)
  | _ => false
theorem erCls_ok {K : PySem.W.Frag} {C : Addr} (h : erCls K C = true) : ∃ nm q N bs bm sn sub ab col dd k0 k1 k2 k3 k5, K.lookup C = some (excClassObj nm q C N bs bm true sn sub ab col dd k0 k1 k2 k3 k5 "ValueError.__new__") ∧ PySem.HandSPX.refsVE bm = true := by
  unfold erCls at h
  split at h
  · rename_i t dd nm bs mro ns qn hd sn sub ab col del sl ho
    obtain ⟨ht, h⟩ := He.ba h
    have et : t = "type" := of_decide_eq_true ht
    split at h
    · rename_i C' bm k0 k1 k2 k3 n k5 hs _
      obtain ⟨h1, h⟩ := He.ba h
      obtain ⟨h2, h⟩ := He.ba h
      obtain ⟨h3, h⟩ := He.ba h
      obtain ⟨h4, h5⟩ := He.ba h
      have e1 : C' = C := of_decide_eq_true h1
      have e3 : del = false := by simpa using h3
      have e4 : n = "ValueError.__new__" := of_decide_eq_true h4
      have e2 : hd = true := h2
      subst et e1 e2 e3 e4
      have hsl : sl = #[k0, k1, k2, k3, some (.builtin "ValueError.__new__"), k5] := by
        obtain ⟨l⟩ := sl
        simp only at hs
        rw [hs]
      subst hsl
      exact ⟨_, _, _, _, bm, _, _, _, _, _, k0, k1, k2, k3, k5, ho, h5⟩
    · cases h
  · cases h
def erB (P : Program) (K : PySem.W.Frag) (e : Er) : Bool :=
  erCls K (He.ga K e.x) && (He.eqO (PySem.W.findIn K (.ref (He.ga K e.x)) "__setattr__") (some (some (.builtin "object.__setattr__"))) && (He.eqO (PySem.W.findIn K (.ref (He.ga K e.x)) "__init__") (some (some (.ref (erAd K e)))) &&
  (decide (PySem.W.typeIn K (.ref (erAd K e)) = some (.type "function")) && (PySem.W.keepIn K (.ref (He.ga K e.x)) && (decide (PySem.W.subIn K (.ref (He.ga K e.x)) (.type "BaseException") = some true) &&
  (decide (PySem.W.subIn K (.ref (He.ga K e.x)) (.type "ValueError") = some true) && (decide (PySem.W.typeIn K (.ref (He.ga K e.x)) = some (.type "type")) &&
  ((match K.lookup (erAd K e) with
    | some ⟨_, _, .func fd, _⟩ => (match fd.closure, fd.code with
      | [(n, _)], .ref _ => decide (n = ("__class__" : Str))
      | _, _ => false)
    | _ => false) && (PySem.W.codeIn K (.ref (codeAd K e)) e.qual &&
  ((match K.lookup (codeAd K e) with
    | some ⟨_, _, .fields vs, _⟩ => (match (vs[2]? : Option Value) with
      | some (.str file _) => (P.main.file : Str) == file
      | _ => false)
    | _ => false) && ((match K.lookup (cellOf K e) with
    | some ⟨_, _, .cell (some (.ref D)), _⟩ => decide (D = He.ga K e.x)
    | _ => false) && (He.eqO (PySem.W.ks_superIn K (He.ga K e.x) (He.ga K e.x) "__init__") (some (some (.builtin "ValueError.__init__"))) && (decide (PySem.W.mroIn K (He.ga K e.x) (.ref (He.ga K e.x)) = some true) &&
  (match e.fld with
    | some f => He.eqO (PySem.W.findIn K (.ref (He.ga K e.x)) f) (some none) && (He.eqO (PySem.W.findIn K (.ref (He.ga K e.x)) "__getattribute__") (some (some (.builtin "BaseException.__getattribute__"))) &&
      (He.eqO (PySem.W.findIn K (.ref (He.ga K e.x)) "__getattr__") (some none) && PySem.W.hasDictIn K (He.ga K e.x)))
    | none => true))))))))))))))
theorem erB_ok {P : Program} {K : PySem.W.Frag} {e : Er} (h : erB P K e = true) (ho : erObs K e = e.val) (hs : PySem.W.nsIn K mainGlobals "super" = some none) (hq : PySem.W.nsIn K cStatics "thirdparty.any" = some none) (ht : (P.main.scope.names.lookup ("super" : Str)).isSome = false) :
    ErrC K P (He.ga K e.x) (erAd K e) (cellOf K e) (codeAd K e) e.st e.qual ∧ ∀ f, e.fld = some f → PySem.W.findIn K (.ref (He.ga K e.x)) f = some none ∧
      PySem.W.findIn K (.ref (He.ga K e.x)) "__getattribute__" = some (some (.builtin "BaseException.__getattribute__")) ∧ PySem.W.findIn K (.ref (He.ga K e.x)) "__getattr__" = some none ∧ PySem.W.hasDictIn K (He.ga K e.x) = true := by
  unfold erB at h
  obtain ⟨h1, h⟩ := He.ba h
  obtain ⟨h2, h⟩ := He.ba h
  obtain ⟨h3, h⟩ := He.ba h
  obtain ⟨h4, h⟩ := He.ba h
  obtain ⟨h5, h⟩ := He.ba h
  obtain ⟨h6, h⟩ := He.ba h
  obtain ⟨h7, h⟩ := He.ba h
  obtain ⟨h8, h⟩ := He.ba h
  obtain ⟨h9, h⟩ := He.ba h
  obtain ⟨h10, h⟩ := He.ba h
  obtain ⟨h11, h⟩ := He.ba h
  obtain ⟨h12, h⟩ := He.ba h
  obtain ⟨h13, h⟩ := He.ba h
  obtain ⟨h14, h15⟩ := He.ba h
  refine ⟨⟨erCls_ok h1, He.eqO_ok h2, He.eqO_ok h3, of_decide_eq_true h4, h5, of_decide_eq_true h6, of_decide_eq_true h7, of_decide_eq_true h8, ?_, ?_, ?_, hs, hq, He.eqO_ok h13, of_decide_eq_true h14, ht⟩, fun f hf => ?_⟩
  · unfold erObs at ho
    cases q : K.lookup (erAd K e) with
    | none =>
      rw [q] at h9
      cases h9
    | some o =>
      obtain ⟨oc, od, dt, osl⟩ := o
      cases dt with
      | func fd =>
        have ec : codeAd K e = (match fd.code with | .ref c => c | _ => 0) := by unfold codeAd; rw [q]
        have el : cellOf K e = (match fd.closure with | [(_, cc)] => cc | _ => 0) := by unfold cellOf; rw [q]
        rw [q] at h9 ho
        obtain ⟨n1, n2, n3, n4, n5, n6, n7, n8, n9, n10, n11, n12, n13, n14, n15⟩ := fd
        have e2 : (some (n1, n2, n3, n4, n5, n6, n15, n8) : ErV) = e.val := ho
        unfold Er.val at e2
        simp only [Option.some.injEq, Prod.mk.injEq] at e2
        obtain ⟨a1, a2, a3, a4, a5, a6, a7, a8⟩ := e2
        simp only at h9 ec el
        obtain ⟨n, cc, c, ecl', ecd', en⟩ : ∃ n cc c, n7 = [(n, cc)] ∧ n13 = .ref c ∧ n = ("__class__" : Str) := by
          split at h9
          · exact ⟨_, _, _, rfl, rfl, of_decide_eq_true h9⟩
          · cases h9
        rw [ecd'] at ec
        rw [ecl'] at el
        simp only at ec el
        rw [ec] at h10
        refine ⟨oc, od, n9, n10, n11, n12, n14, osl, ?_, by rw [ec]; exact h10⟩
        rw [ec, el]
        subst en
        subst ecl' ecd' a1 a2 a3 a4 a5 a6 a7 a8
        rfl
      | _ =>
        rw [q] at h9
        cases h9
  · split at h11
    · rename_i ccl cdd vs ccs hl
      split at h11
      · rename_i file tf hv
        exact ⟨ccl, cdd, vs, ccs, file, tf, hl, hv, h11⟩
      · cases h11
    · cases h11
  · split at h12
    · rename_i cl cld D csl hl
      have eD : D = He.ga K e.x := of_decide_eq_true h12
      subst eD
      exact ⟨cl, cld, csl, hl⟩
    · cases h12
  · rw [hf] at h15
    obtain ⟨c1, c⟩ := He.ba h15
    obtain ⟨c2, c⟩ := He.ba c
    obtain ⟨c3, c4⟩ := He.ba c
    exact ⟨He.eqO_ok c1, He.eqO_ok c2, He.eqO_ok c3, c4⟩
/-! ### the Hook -/
abbrev AlM : Type := He.AlT × List ErV × Bool
def exB (P : Program) (ers : List Er) (tv : PySem.W.Frag → Bool) (K : PySem.W.Frag) : Bool := (ers.all fun e => erB P K e) && (He.eqO (PySem.W.nsIn K mainGlobals "super") (some none) && (He.eqO (PySem.W.nsIn K cStatics "thirdparty.any") (some none) && tv K))
def obsM (P : Program) (fa : List He.Fa) (fn : List He.DefD) (ts : List He.Tab) (ers : List Er) (tv : PySem.W.Frag → Bool) (K : PySem.W.Frag) : AlM := (He.obsT fa fn ts K, ers.map (erObs K), exB P ers tv K)
def valM (fn : List He.DefD) (ts : List He.Tab) (ers : List Er) (w : World) : AlM := (He.valT fn ts w, ers.map Er.val, true)
def SaysM (P : Program) (fa : List He.Fa) (fn : List He.DefD) (ts : List He.Tab) (ers : List Er) (tv : PySem.W.Frag → Bool) (w : World) (K : PySem.W.Frag) : Prop := obsM P fa fn ts ers tv K = valM fn ts ers w
/-- where to look: the names wanted, and what their objects name, n steps far -/
def adM (xs : List Str) (g : Addr → Option Obj) : Nat → List Addr
  | 0 => (xs.map (He.ga (He.frG g [mainGlobals]))).eraseDups
  | n + 1 => He.growD g (adM xs g n)
def frM (n : Nat) (xs : List Str) (g : Addr → Option Obj) : PySem.W.Frag := He.frG g (mainGlobals :: cStatics :: adM xs g n)
def obsMG (P : Program) (n : Nat) (xs : List Str) (fa : List He.Fa) (fn : List He.DefD) (ts : List He.Tab) (ers : List Er) (tv : PySem.W.Frag → Bool) (g : Addr → Option Obj) : AlM := obsM P fa fn ts ers tv (frM n xs g)
def hookM (P : Program) (n : Nat) (xs : List Str) (fa : List He.Fa) (fn : List He.DefD) (ts : List He.Tab) (ers : List Er) (tv : PySem.W.Frag → Bool) : PySem.W.Hook where
  α := AlM
  obs := fun s => obsMG P n xs fa fn ts ers tv s.heap.get?
  val := fun w => valM fn ts ers w
  says := fun w h => ∃ K : PySem.W.Frag, K.In h ∧ SaysM P fa fn ts ers tv w K
  of := fun _ _ e => ⟨_, He.frG_in, e⟩
  keeps := fun _ _ _ ⟨K, hK, c⟩ k => ⟨K, PySem.W.Frag.In.keeps hK k, c⟩
theorem obsMG_eq {P : Program} {n : Nat} {xs : List Str} {fa : List He.Fa} {fn : List He.DefD} {ts : List He.Tab} {ers : List Er} {tv : PySem.W.Frag → Bool} {g : Addr → Option Obj} {s : Shared} (h : ∀ a, g a = s.heap.get? a) : obsMG P n xs fa fn ts ers tv g = (hookM P n xs fa fn ts ers tv).obs s := by
  have e : g = s.heap.get? := funext h
  rw [e] <;> rfl
section
variable {P : Program} {fa : List He.Fa} {fn : List He.DefD} {ts : List He.Tab} {ers : List Er} {tv : PySem.W.Frag → Bool} {w : World} {K : PySem.W.Frag}
theorem SaysM.t (c : SaysM P fa fn ts ers tv w K) : He.SaysT fa fn ts w K := congrArg (fun z : AlM => z.1) c
theorem SaysM.ex (c : SaysM P fa fn ts ers tv w K) : exB P ers tv K = true := congrArg (fun z : AlM => z.2.2) c
theorem SaysM.tval (c : SaysM P fa fn ts ers tv w K) : tv K = true := (He.ba (He.ba (He.ba c.ex).2).2).2
theorem SaysM.sup (c : SaysM P fa fn ts ers tv w K) : PySem.W.nsIn K mainGlobals "super" = some none := He.eqO_ok (He.ba (He.ba c.ex).2).1
theorem SaysM.err (c : SaysM P fa fn ts ers tv w K) (ht : (P.main.scope.names.lookup ("super" : Str)).isSome = false) (i : Nat) {e : Er} (h : ers[i]? = some e) :
    ErrC K P (He.ga K e.x) (erAd K e) (cellOf K e) (codeAd K e) e.st e.qual ∧ ∀ f, e.fld = some f → PySem.W.findIn K (.ref (He.ga K e.x)) f = some none ∧
      PySem.W.findIn K (.ref (He.ga K e.x)) "__getattribute__" = some (some (.builtin "BaseException.__getattribute__")) ∧ PySem.W.findIn K (.ref (He.ga K e.x)) "__getattr__" = some none ∧ PySem.W.hasDictIn K (He.ga K e.x) = true := by
  have e1 : ers.map (erObs K) = ers.map Er.val := congrArg (fun z : AlM => z.2.1) c
  have e2 : (ers.map (erObs K))[i]? = (ers.map Er.val)[i]? := by rw [e1]
  rw [List.getElem?_map, List.getElem?_map, h] at e2
  obtain ⟨x1, x2⟩ := He.ba c.ex
  obtain ⟨x3, x4⟩ := He.ba x2
  exact erB_ok (List.all_eq_true.mp x1 e (List.mem_of_getElem? h)) (Option.some.inj e2) (He.eqO_ok x3) (He.eqO_ok (He.ba x4).1) ht
end
end L2.Dk
set_option Elab.async false
set_option linter.all false
set_option maxRecDepth 100000
set_option maxHeartbeats 4000000
/-! The program's text by places; what the head says of it. Printed by gen_top.py. -/
namespace L2.Dk
open PySem PySem.Spec PyProof.Rows
def top (i : Nat) : Stmt := PySem.Challenge.pw_turnsneeded_k23_whole_long_desks_undone.main.body.getD i (.Pass ⟨0, 0, 0, 0⟩)
abbrev prg : Program := PySem.Challenge.pw_turnsneeded_k23_whole_long_desks_undone
abbrev s_is_integer : Stmt := top 16
abbrev s_is_within : Stmt := top 17
abbrev s_is_triple : Stmt := top 18
abbrev s_are_integers : Stmt := top 19
abbrev s_are_within : Stmt := top 20
abbrev s_is_reading : Stmt := top 33
abbrev s_is_figures : Stmt := top 93
abbrev s_is_signed : Stmt := top 94
abbrev s_is_right : Stmt := top 95
abbrev s_read_program : Stmt := top 96
abbrev s_program_text : Stmt := top 98
abbrev s_is_name : Stmt := top 120
abbrev s_is_of_form : Stmt := top 121
abbrev s_told_words : Stmt := top 122
abbrev s_answer_of : Stmt := top 124
abbrev s_law_pool : Stmt := top 127
abbrev s_law_draw : Stmt := top 128
abbrev s_law_some : Stmt := top 129
abbrev s_law_integer : Stmt := top 130
abbrev s_law_same : Stmt := top 131
abbrev s_law_sorted_parts : Stmt := top 132
abbrev s_law_text : Stmt := top 133
abbrev s_law_few_parts : Stmt := top 134
abbrev s_law_line_text : Stmt := top 135
abbrev s_law_desk_word : Stmt := top 136
abbrev s_law_names_word : Stmt := top 137
abbrev s_law_names : Stmt := top 138
abbrev s_law_shows : Stmt := top 139
abbrev s_law : Stmt := top 140
abbrev s_Program_init : Stmt := inClass (top 34) 0
abbrev s_Program_keep : Stmt := inClass (top 34) 1
abbrev s_Desk_init : Stmt := inClass (top 125) 0
abbrev s_Desk_keep : Stmt := inClass (top 125) 1
abbrev s_Desk_put : Stmt := inClass (top 125) 2
abbrev s_Desk_undo : Stmt := inClass (top 125) 3
abbrev s_Desk_program_of : Stmt := inClass (top 125) 4
abbrev s_Desk_tell : Stmt := inClass (top 125) 5
abbrev s_Desk_undoable : Stmt := inClass (top 125) 6
abbrev s_BadText : Stmt := inClass (top 4) 0
abbrev s_NothingDone : Stmt := inClass (top 11) 0
abbrev s_NoLine : Stmt := inClass (top 12) 0
abbrev FnP (K : PySem.W.Frag) (x q : Str) (st : Stmt) (f : Addr) : Prop := ∃ fd, FunD K x q (defArgs st) (defBody st) (defScope st) [] [] f fd
def d_is_integer : He.DefD := ⟨("is_integer", none), "is_integer", "is_integer", defArgs s_is_integer, defBody s_is_integer, defScope s_is_integer, [], []⟩
def d_is_within : He.DefD := ⟨("is_within", none), "is_within", "is_within", defArgs s_is_within, defBody s_is_within, defScope s_is_within, [], []⟩
def d_is_triple : He.DefD := ⟨("is_triple", none), "is_triple", "is_triple", defArgs s_is_triple, defBody s_is_triple, defScope s_is_triple, [], []⟩
def d_are_integers : He.DefD := ⟨("are_integers", none), "are_integers", "are_integers", defArgs s_are_integers, defBody s_are_integers, defScope s_are_integers, [], []⟩
def d_are_within : He.DefD := ⟨("are_within", none), "are_within", "are_within", defArgs s_are_within, defBody s_are_within, defScope s_are_within, [], []⟩
def d_is_reading : He.DefD := ⟨("is_reading", none), "is_reading", "is_reading", defArgs s_is_reading, defBody s_is_reading, defScope s_is_reading, [], []⟩
def d_is_figures : He.DefD := ⟨("is_figures", none), "is_figures", "is_figures", defArgs s_is_figures, defBody s_is_figures, defScope s_is_figures, [], []⟩
def d_is_signed : He.DefD := ⟨("is_signed", none), "is_signed", "is_signed", defArgs s_is_signed, defBody s_is_signed, defScope s_is_signed, [], []⟩
def d_is_right : He.DefD := ⟨("is_right", none), "is_right", "is_right", defArgs s_is_right, defBody s_is_right, defScope s_is_right, [], []⟩
def d_read_program : He.DefD := ⟨("read_program", none), "read_program", "read_program", defArgs s_read_program, defBody s_read_program, defScope s_read_program, [], []⟩
def d_program_text : He.DefD := ⟨("program_text", none), "program_text", "program_text", defArgs s_program_text, defBody s_program_text, defScope s_program_text, [], []⟩
def d_is_name : He.DefD := ⟨("is_name", none), "is_name", "is_name", defArgs s_is_name, defBody s_is_name, defScope s_is_name, [], []⟩
def d_is_of_form : He.DefD := ⟨("is_of_form", none), "is_of_form", "is_of_form", defArgs s_is_of_form, defBody s_is_of_form, defScope s_is_of_form, [], []⟩
def d_told_words : He.DefD := ⟨("told_words", none), "told_words", "told_words", defArgs s_told_words, defBody s_told_words, defScope s_told_words, [], []⟩
def d_answer_of : He.DefD := ⟨("answer_of", none), "answer_of", "answer_of", defArgs s_answer_of, defBody s_answer_of, defScope s_answer_of, [], []⟩
def d_law_pool : He.DefD := ⟨("_law_pool", none), "_law_pool", "_law_pool", defArgs s_law_pool, defBody s_law_pool, defScope s_law_pool, [], []⟩
def d_law_draw : He.DefD := ⟨("_law_draw", none), "_law_draw", "_law_draw", defArgs s_law_draw, defBody s_law_draw, defScope s_law_draw, [], []⟩
def d_law_some : He.DefD := ⟨("_law_some", none), "_law_some", "_law_some", defArgs s_law_some, defBody s_law_some, defScope s_law_some, [], []⟩
def d_law_integer : He.DefD := ⟨("_law_integer", none), "_law_integer", "_law_integer", defArgs s_law_integer, defBody s_law_integer, defScope s_law_integer, [], []⟩
def d_law_same : He.DefD := ⟨("_law_same", none), "_law_same", "_law_same", defArgs s_law_same, defBody s_law_same, defScope s_law_same, [], []⟩
def d_law_sorted_parts : He.DefD := ⟨("_law_sorted_parts", none), "_law_sorted_parts", "_law_sorted_parts", defArgs s_law_sorted_parts, defBody s_law_sorted_parts, defScope s_law_sorted_parts, [], []⟩
def d_law_text : He.DefD := ⟨("_law_text", none), "_law_text", "_law_text", defArgs s_law_text, defBody s_law_text, defScope s_law_text, [], []⟩
def d_law_few_parts : He.DefD := ⟨("_law_few_parts", none), "_law_few_parts", "_law_few_parts", defArgs s_law_few_parts, defBody s_law_few_parts, defScope s_law_few_parts, [], []⟩
def d_law_line_text : He.DefD := ⟨("_law_line_text", none), "_law_line_text", "_law_line_text", defArgs s_law_line_text, defBody s_law_line_text, defScope s_law_line_text, [], []⟩
def d_law_desk_word : He.DefD := ⟨("_law_desk_word", none), "_law_desk_word", "_law_desk_word", defArgs s_law_desk_word, defBody s_law_desk_word, defScope s_law_desk_word, [], []⟩
def d_law_names_word : He.DefD := ⟨("_law_names_word", none), "_law_names_word", "_law_names_word", defArgs s_law_names_word, defBody s_law_names_word, defScope s_law_names_word, [], []⟩
def d_law_names : He.DefD := ⟨("_law_names", none), "_law_names", "_law_names", defArgs s_law_names, defBody s_law_names, defScope s_law_names, [], []⟩
def d_law_shows : He.DefD := ⟨("_law_shows", none), "_law_shows", "_law_shows", defArgs s_law_shows, defBody s_law_shows, defScope s_law_shows, [], []⟩
def d_law : He.DefD := ⟨("law", none), "law", "law", defArgs s_law, defBody s_law, defScope s_law, [], []⟩
def d_Program_init : He.DefD := ⟨("Program", some "__init__"), "__init__", "Program.__init__", defArgs s_Program_init, defBody s_Program_init, defScope s_Program_init, [], []⟩
def d_Program_keep : He.DefD := ⟨("Program", some "keep"), "keep", "Program.keep", defArgs s_Program_keep, defBody s_Program_keep, defScope s_Program_keep, [], []⟩
def d_Desk_init : He.DefD := ⟨("Desk", some "__init__"), "__init__", "Desk.__init__", defArgs s_Desk_init, defBody s_Desk_init, defScope s_Desk_init, [], []⟩
def d_Desk_keep : He.DefD := ⟨("Desk", some "keep"), "keep", "Desk.keep", defArgs s_Desk_keep, defBody s_Desk_keep, defScope s_Desk_keep, [], []⟩
def d_Desk_put : He.DefD := ⟨("Desk", some "put"), "put", "Desk.put", defArgs s_Desk_put, defBody s_Desk_put, defScope s_Desk_put, [], []⟩
def d_Desk_undo : He.DefD := ⟨("Desk", some "undo"), "undo", "Desk.undo", defArgs s_Desk_undo, defBody s_Desk_undo, defScope s_Desk_undo, [], []⟩
def d_Desk_program_of : He.DefD := ⟨("Desk", some "program_of"), "program_of", "Desk.program_of", defArgs s_Desk_program_of, defBody s_Desk_program_of, defScope s_Desk_program_of, [], []⟩
def d_Desk_tell : He.DefD := ⟨("Desk", some "tell"), "tell", "Desk.tell", defArgs s_Desk_tell, defBody s_Desk_tell, defScope s_Desk_tell, [], []⟩
def d_Desk_undoable : He.DefD := ⟨("Desk", some "undoable"), "undoable", "Desk.undoable", defArgs s_Desk_undoable, defBody s_Desk_undoable, defScope s_Desk_undoable, [], []⟩
def fn0 : List He.DefD := [d_is_integer, d_is_within, d_is_triple, d_are_integers, d_are_within, d_is_reading, d_is_figures, d_is_signed, d_is_right, d_read_program, d_program_text, d_is_name]
def fn1 : List He.DefD := [d_is_of_form, d_told_words, d_answer_of, d_law_pool, d_law_draw, d_law_some, d_law_integer, d_law_same, d_law_sorted_parts, d_law_text, d_law_few_parts, d_law_line_text]
def fn2 : List He.DefD := [d_law_desk_word, d_law_names_word, d_law_names, d_law_shows, d_law, d_Program_init, d_Program_keep, d_Desk_init, d_Desk_keep, d_Desk_put, d_Desk_undo, d_Desk_program_of]
def fn3 : List He.DefD := [d_Desk_tell, d_Desk_undoable]
def fn : List He.DefD := fn0 ++ (fn1 ++ (fn2 ++ (fn3)))
def fa0 : List He.Fa := [.glo "is_integer", .glo "is_within", .glo "is_triple", .glo "are_integers", .glo "are_within", .glo "is_reading", .glo "is_figures", .glo "is_signed", .glo "is_right", .glo "read_program", .glo "program_text", .glo "is_name"]
def fa1 : List He.Fa := [.glo "is_of_form", .glo "told_words", .glo "answer_of", .glo "_law_pool", .glo "_law_draw", .glo "_law_some", .glo "_law_integer", .glo "_law_same", .glo "_law_sorted_parts", .glo "_law_text", .glo "_law_few_parts", .glo "_law_line_text"]
def fa2 : List He.Fa := [.glo "_law_desk_word", .glo "_law_names_word", .glo "_law_names", .glo "_law_shows", .glo "law", .glo "Program", .glo "Desk", .glo "TurnError", .glo "BadProgram", .glo "BadText", .glo "TooMany", .glo "NoBox"]
def fa3 : List He.Fa := [.glo "NoTable", .glo "NotWorking", .glo "NothingDone", .glo "NoLine", .glo "NoName", .glo "FORMS", .free "len", .free "isinstance", .free "all", .free "enumerate", .free "zip", .free "sorted"]
def fa4 : List He.Fa := [.free "set", .free "range", .free "str", .free "int", .free "sum", .free "abs", .free "tuple", .free "list", .free "super", .free "bool", .int "MOST_SIDES" 4, .int "MOST_TABLES" 8]
def fa5 : List He.Fa := [.int "MOST_READINGS" 24, .int "MOST_STEP" 1000000000000, .int "MOST_FIGURES" 60, .int "MOST_NAME" 8, .str "LETTERS" "abcdefghijklmnopqrstuvwxyz", .str "DIGITS" "0123456789", .cls "Program", .cls "Desk", .mkr "Program", .mkr "Desk", .noat "Program" "sides", .noat "Program" "tables"]
def fa6 : List He.Fa := [.noat "Program" "readings", .noat "Desk" "kept", .noat "Desk" "past", .meth "Program" "keep", .meth "Desk" "keep", .meth "Desk" "put", .meth "Desk" "undo", .meth "Desk" "program_of", .meth "Desk" "tell", .meth "Desk" "undoable", .exm "BadText" "NoName" false, .exm "BadText" "BadText" true]
def fa7 : List He.Fa := [.exm "NothingDone" "NoName" false, .exm "NothingDone" "BadText" false, .exm "NothingDone" "BadProgram" false, .exm "NothingDone" "NothingDone" true, .exm "NoLine" "NoName" false, .exm "NoLine" "BadText" false, .exm "NoLine" "BadProgram" false, .exm "NoLine" "NothingDone" false, .exm "NoLine" "NoLine" true]
def fa : List He.Fa := fa0 ++ (fa1 ++ (fa2 ++ (fa3 ++ (fa4 ++ (fa5 ++ (fa6 ++ (fa7)))))))
def wanted0 : List Str := ["is_integer", "is_within", "is_triple", "are_integers", "are_within", "is_reading", "is_figures", "is_signed", "is_right", "read_program", "program_text", "is_name"]
def wanted1 : List Str := ["is_of_form", "told_words", "answer_of", "_law_pool", "_law_draw", "_law_some", "_law_integer", "_law_same", "_law_sorted_parts", "_law_text", "_law_few_parts", "_law_line_text"]
def wanted2 : List Str := ["_law_desk_word", "_law_names_word", "_law_names", "_law_shows", "law", "Program", "Desk", "TurnError", "BadProgram", "BadText", "TooMany", "NoBox"]
def wanted3 : List Str := ["NoTable", "NotWorking", "NothingDone", "NoLine", "NoName", "FORMS"]
def wanted : List Str := wanted0 ++ (wanted1 ++ (wanted2 ++ (wanted3)))
def ts : List He.Tab := [((fun K => He.ga K "FORMS"), ["drop", "show", "names", "undo", "works", "depths", "kept", "turn", "parts", "longest"])]
def forms : List (Str × He.Dv) := [("drop", .str "n"), ("show", .str "n"), ("names", .str ""), ("undo", .str ""), ("works", .str "nw"), ("depths", .str "nw"), ("kept", .str "nw"), ("turn", .str "nw"), ("parts", .str "n"), ("longest", .str "nii")]
def tv (K : PySem.W.Frag) : Bool := He.valsB K (He.ga K "FORMS") forms && (decide (PySem.W.nsIn K (He.ga K "FORMS") "" = some none) && decide (PySem.W.typeIn K (.ref (He.ga K "FORMS")) = some (.type "dict")))
def e_BadText : Er := ⟨"BadText", "BadText.__init__", s_BadText, some "line"⟩
def e_NothingDone : Er := ⟨"NothingDone", "NothingDone.__init__", s_NothingDone, none⟩
def e_NoLine : Er := ⟨"NoLine", "NoLine.__init__", s_NoLine, none⟩
def ers : List Er := [e_BadText, e_NothingDone, e_NoLine]
/-- all that is known of the top -/
structure Txt (w : World) (K : PySem.W.Frag) (mg : Str → Option Value) : Prop where
  g_is_integer : mg "is_integer" = some (.ref (He.ga K "is_integer"))
  g_is_within : mg "is_within" = some (.ref (He.ga K "is_within"))
  g_is_triple : mg "is_triple" = some (.ref (He.ga K "is_triple"))
  g_are_integers : mg "are_integers" = some (.ref (He.ga K "are_integers"))
  g_are_within : mg "are_within" = some (.ref (He.ga K "are_within"))
  g_is_reading : mg "is_reading" = some (.ref (He.ga K "is_reading"))
  g_is_figures : mg "is_figures" = some (.ref (He.ga K "is_figures"))
  g_is_signed : mg "is_signed" = some (.ref (He.ga K "is_signed"))
  g_is_right : mg "is_right" = some (.ref (He.ga K "is_right"))
  g_read_program : mg "read_program" = some (.ref (He.ga K "read_program"))
  g_program_text : mg "program_text" = some (.ref (He.ga K "program_text"))
  g_is_name : mg "is_name" = some (.ref (He.ga K "is_name"))
  g_is_of_form : mg "is_of_form" = some (.ref (He.ga K "is_of_form"))
  g_told_words : mg "told_words" = some (.ref (He.ga K "told_words"))
  g_answer_of : mg "answer_of" = some (.ref (He.ga K "answer_of"))
  g_law_pool : mg "_law_pool" = some (.ref (He.ga K "_law_pool"))
  g_law_draw : mg "_law_draw" = some (.ref (He.ga K "_law_draw"))
  g_law_some : mg "_law_some" = some (.ref (He.ga K "_law_some"))
  g_law_integer : mg "_law_integer" = some (.ref (He.ga K "_law_integer"))
  g_law_same : mg "_law_same" = some (.ref (He.ga K "_law_same"))
  g_law_sorted_parts : mg "_law_sorted_parts" = some (.ref (He.ga K "_law_sorted_parts"))
  g_law_text : mg "_law_text" = some (.ref (He.ga K "_law_text"))
  g_law_few_parts : mg "_law_few_parts" = some (.ref (He.ga K "_law_few_parts"))
  g_law_line_text : mg "_law_line_text" = some (.ref (He.ga K "_law_line_text"))
  g_law_desk_word : mg "_law_desk_word" = some (.ref (He.ga K "_law_desk_word"))
  g_law_names_word : mg "_law_names_word" = some (.ref (He.ga K "_law_names_word"))
  g_law_names : mg "_law_names" = some (.ref (He.ga K "_law_names"))
  g_law_shows : mg "_law_shows" = some (.ref (He.ga K "_law_shows"))
  g_law : mg "law" = some (.ref (He.ga K "law"))
  g_Program : mg "Program" = some (.ref (He.ga K "Program"))
  g_Desk : mg "Desk" = some (.ref (He.ga K "Desk"))
  g_TurnError : mg "TurnError" = some (.ref (He.ga K "TurnError"))
  g_BadProgram : mg "BadProgram" = some (.ref (He.ga K "BadProgram"))
  g_BadText : mg "BadText" = some (.ref (He.ga K "BadText"))
  g_TooMany : mg "TooMany" = some (.ref (He.ga K "TooMany"))
  g_NoBox : mg "NoBox" = some (.ref (He.ga K "NoBox"))
  g_NoTable : mg "NoTable" = some (.ref (He.ga K "NoTable"))
  g_NotWorking : mg "NotWorking" = some (.ref (He.ga K "NotWorking"))
  g_NothingDone : mg "NothingDone" = some (.ref (He.ga K "NothingDone"))
  g_NoLine : mg "NoLine" = some (.ref (He.ga K "NoLine"))
  g_NoName : mg "NoName" = some (.ref (He.ga K "NoName"))
  g_FORMS : mg "FORMS" = some (.ref (He.ga K "FORMS"))
  f_len : mg "len" = none
  f_isinstance : mg "isinstance" = none
  f_all : mg "all" = none
  f_enumerate : mg "enumerate" = none
  f_zip : mg "zip" = none
  f_sorted : mg "sorted" = none
  f_set : mg "set" = none
  f_range : mg "range" = none
  f_str : mg "str" = none
  f_int : mg "int" = none
  f_sum : mg "sum" = none
  f_abs : mg "abs" = none
  f_tuple : mg "tuple" = none
  f_list : mg "list" = none
  f_super : mg "super" = none
  f_bool : mg "bool" = none
  i_MOST_SIDES : ∃ t, mg "MOST_SIDES" = some (.int 4 t)
  i_MOST_TABLES : ∃ t, mg "MOST_TABLES" = some (.int 8 t)
  i_MOST_READINGS : ∃ t, mg "MOST_READINGS" = some (.int 24 t)
  i_MOST_STEP : ∃ t, mg "MOST_STEP" = some (.int 1000000000000 t)
  i_MOST_FIGURES : ∃ t, mg "MOST_FIGURES" = some (.int 60 t)
  i_MOST_NAME : ∃ t, mg "MOST_NAME" = some (.int 8 t)
  t_LETTERS : ∃ t, mg "LETTERS" = some (.str "abcdefghijklmnopqrstuvwxyz" t)
  t_DIGITS : ∃ t, mg "DIGITS" = some (.str "0123456789" t)
  cl_Program : Cls K (He.ga K "Program")
  cl_Desk : Cls K (He.ga K "Desk")
  mk_Program : Mk K (He.ga K "Program") (He.ma K (He.ga K "Program") "__init__")
  mk_Desk : Mk K (He.ga K "Desk") (He.ma K (He.ga K "Desk") "__init__")
  no_Program_sides : NoAttr K (He.ga K "Program") "sides"
  no_Program_tables : NoAttr K (He.ga K "Program") "tables"
  no_Program_readings : NoAttr K (He.ga K "Program") "readings"
  no_Desk_kept : NoAttr K (He.ga K "Desk") "kept"
  no_Desk_past : NoAttr K (He.ga K "Desk") "past"
  m_Program_keep : Meth K (He.ga K "Program") "keep" (He.ma K (He.ga K "Program") "keep")
  m_Desk_keep : Meth K (He.ga K "Desk") "keep" (He.ma K (He.ga K "Desk") "keep")
  m_Desk_put : Meth K (He.ga K "Desk") "put" (He.ma K (He.ga K "Desk") "put")
  m_Desk_undo : Meth K (He.ga K "Desk") "undo" (He.ma K (He.ga K "Desk") "undo")
  m_Desk_program_of : Meth K (He.ga K "Desk") "program_of" (He.ma K (He.ga K "Desk") "program_of")
  m_Desk_tell : Meth K (He.ga K "Desk") "tell" (He.ma K (He.ga K "Desk") "tell")
  m_Desk_undoable : Meth K (He.ga K "Desk") "undoable" (He.ma K (He.ga K "Desk") "undoable")
  x_BadText_NoName : PySem.W.exmOne K (.ref (He.ga K "BadText")) (.ref (He.ga K "NoName")) = some false
  x_BadText_BadText : PySem.W.exmOne K (.ref (He.ga K "BadText")) (.ref (He.ga K "BadText")) = some true
  x_NothingDone_NoName : PySem.W.exmOne K (.ref (He.ga K "NothingDone")) (.ref (He.ga K "NoName")) = some false
  x_NothingDone_BadText : PySem.W.exmOne K (.ref (He.ga K "NothingDone")) (.ref (He.ga K "BadText")) = some false
  x_NothingDone_BadProgram : PySem.W.exmOne K (.ref (He.ga K "NothingDone")) (.ref (He.ga K "BadProgram")) = some false
  x_NothingDone_NothingDone : PySem.W.exmOne K (.ref (He.ga K "NothingDone")) (.ref (He.ga K "NothingDone")) = some true
  x_NoLine_NoName : PySem.W.exmOne K (.ref (He.ga K "NoLine")) (.ref (He.ga K "NoName")) = some false
  x_NoLine_BadText : PySem.W.exmOne K (.ref (He.ga K "NoLine")) (.ref (He.ga K "BadText")) = some false
  x_NoLine_BadProgram : PySem.W.exmOne K (.ref (He.ga K "NoLine")) (.ref (He.ga K "BadProgram")) = some false
  x_NoLine_NothingDone : PySem.W.exmOne K (.ref (He.ga K "NoLine")) (.ref (He.ga K "NothingDone")) = some false
  x_NoLine_NoLine : PySem.W.exmOne K (.ref (He.ga K "NoLine")) (.ref (He.ga K "NoLine")) = some true
  d_is_integer : FnP K "is_integer" "is_integer" s_is_integer (He.ga K "is_integer")
  d_is_within : FnP K "is_within" "is_within" s_is_within (He.ga K "is_within")
  d_is_triple : FnP K "is_triple" "is_triple" s_is_triple (He.ga K "is_triple")
  d_are_integers : FnP K "are_integers" "are_integers" s_are_integers (He.ga K "are_integers")
  d_are_within : FnP K "are_within" "are_within" s_are_within (He.ga K "are_within")
  d_is_reading : FnP K "is_reading" "is_reading" s_is_reading (He.ga K "is_reading")
  d_is_figures : FnP K "is_figures" "is_figures" s_is_figures (He.ga K "is_figures")
  d_is_signed : FnP K "is_signed" "is_signed" s_is_signed (He.ga K "is_signed")
  d_is_right : FnP K "is_right" "is_right" s_is_right (He.ga K "is_right")
  d_read_program : FnP K "read_program" "read_program" s_read_program (He.ga K "read_program")
  d_program_text : FnP K "program_text" "program_text" s_program_text (He.ga K "program_text")
  d_is_name : FnP K "is_name" "is_name" s_is_name (He.ga K "is_name")
  d_is_of_form : FnP K "is_of_form" "is_of_form" s_is_of_form (He.ga K "is_of_form")
  d_told_words : FnP K "told_words" "told_words" s_told_words (He.ga K "told_words")
  d_answer_of : FnP K "answer_of" "answer_of" s_answer_of (He.ga K "answer_of")
  d_law_pool : FnP K "_law_pool" "_law_pool" s_law_pool (He.ga K "_law_pool")
  d_law_draw : FnP K "_law_draw" "_law_draw" s_law_draw (He.ga K "_law_draw")
  d_law_some : FnP K "_law_some" "_law_some" s_law_some (He.ga K "_law_some")
  d_law_integer : FnP K "_law_integer" "_law_integer" s_law_integer (He.ga K "_law_integer")
  d_law_same : FnP K "_law_same" "_law_same" s_law_same (He.ga K "_law_same")
  d_law_sorted_parts : FnP K "_law_sorted_parts" "_law_sorted_parts" s_law_sorted_parts (He.ga K "_law_sorted_parts")
  d_law_text : FnP K "_law_text" "_law_text" s_law_text (He.ga K "_law_text")
  d_law_few_parts : FnP K "_law_few_parts" "_law_few_parts" s_law_few_parts (He.ga K "_law_few_parts")
  d_law_line_text : FnP K "_law_line_text" "_law_line_text" s_law_line_text (He.ga K "_law_line_text")
  d_law_desk_word : FnP K "_law_desk_word" "_law_desk_word" s_law_desk_word (He.ga K "_law_desk_word")
  d_law_names_word : FnP K "_law_names_word" "_law_names_word" s_law_names_word (He.ga K "_law_names_word")
  d_law_names : FnP K "_law_names" "_law_names" s_law_names (He.ga K "_law_names")
  d_law_shows : FnP K "_law_shows" "_law_shows" s_law_shows (He.ga K "_law_shows")
  d_law : FnP K "law" "law" s_law (He.ga K "law")
  d_Program_init : FnP K "__init__" "Program.__init__" s_Program_init (He.ma K (He.ga K "Program") "__init__")
  d_Program_keep : FnP K "keep" "Program.keep" s_Program_keep (He.ma K (He.ga K "Program") "keep")
  d_Desk_init : FnP K "__init__" "Desk.__init__" s_Desk_init (He.ma K (He.ga K "Desk") "__init__")
  d_Desk_keep : FnP K "keep" "Desk.keep" s_Desk_keep (He.ma K (He.ga K "Desk") "keep")
  d_Desk_put : FnP K "put" "Desk.put" s_Desk_put (He.ma K (He.ga K "Desk") "put")
  d_Desk_undo : FnP K "undo" "Desk.undo" s_Desk_undo (He.ma K (He.ga K "Desk") "undo")
  d_Desk_program_of : FnP K "program_of" "Desk.program_of" s_Desk_program_of (He.ma K (He.ga K "Desk") "program_of")
  d_Desk_tell : FnP K "tell" "Desk.tell" s_Desk_tell (He.ma K (He.ga K "Desk") "tell")
  d_Desk_undoable : FnP K "undoable" "Desk.undoable" s_Desk_undoable (He.ma K (He.ga K "Desk") "undoable")
  forms_d : ∃ es n, KDict K w (He.ga K "FORMS") es n
  forms_v : He.valsB K (He.ga K "FORMS") forms = true
  forms_e : PySem.W.nsIn K (He.ga K "FORMS") "" = some none
  er_BadText : ErrC K prg (He.ga K "BadText") (erAd K e_BadText) (cellOf K e_BadText) (codeAd K e_BadText) s_BadText "BadText.__init__"
  ef_BadText : PySem.W.findIn K (.ref (He.ga K "BadText")) "line" = some none ∧ PySem.W.findIn K (.ref (He.ga K "BadText")) "__getattribute__" = some (some (.builtin "BaseException.__getattribute__")) ∧ PySem.W.findIn K (.ref (He.ga K "BadText")) "__getattr__" = some none ∧ PySem.W.hasDictIn K (He.ga K "BadText") = true
  er_NothingDone : ErrC K prg (He.ga K "NothingDone") (erAd K e_NothingDone) (cellOf K e_NothingDone) (codeAd K e_NothingDone) s_NothingDone "NothingDone.__init__"
  er_NoLine : ErrC K prg (He.ga K "NoLine") (erAd K e_NoLine) (cellOf K e_NoLine) (codeAd K e_NoLine) s_NoLine "NoLine.__init__"
theorem prg_super : (prg.main.scope.names.lookup ("super" : Str)).isSome = false := by decide +kernel
theorem txt_of {w : World} {K : PySem.W.Frag} {h : Heap} {mg : Str → Option Value} (X : K.In h) (G : h.Ns mainGlobals mg) (c : SaysM prg fa fn ts ers tv w K) : Txt w K mg where
  g_is_integer := He.glo_ok X G (c.t.d.fact 0 rfl)
  g_is_within := He.glo_ok X G (c.t.d.fact 1 rfl)
  g_is_triple := He.glo_ok X G (c.t.d.fact 2 rfl)
  g_are_integers := He.glo_ok X G (c.t.d.fact 3 rfl)
  g_are_within := He.glo_ok X G (c.t.d.fact 4 rfl)
  g_is_reading := He.glo_ok X G (c.t.d.fact 5 rfl)
  g_is_figures := He.glo_ok X G (c.t.d.fact 6 rfl)
  g_is_signed := He.glo_ok X G (c.t.d.fact 7 rfl)
  g_is_right := He.glo_ok X G (c.t.d.fact 8 rfl)
  g_read_program := He.glo_ok X G (c.t.d.fact 9 rfl)
  g_program_text := He.glo_ok X G (c.t.d.fact 10 rfl)
  g_is_name := He.glo_ok X G (c.t.d.fact 11 rfl)
  g_is_of_form := He.glo_ok X G (c.t.d.fact 12 rfl)
  g_told_words := He.glo_ok X G (c.t.d.fact 13 rfl)
  g_answer_of := He.glo_ok X G (c.t.d.fact 14 rfl)
  g_law_pool := He.glo_ok X G (c.t.d.fact 15 rfl)
  g_law_draw := He.glo_ok X G (c.t.d.fact 16 rfl)
  g_law_some := He.glo_ok X G (c.t.d.fact 17 rfl)
  g_law_integer := He.glo_ok X G (c.t.d.fact 18 rfl)
  g_law_same := He.glo_ok X G (c.t.d.fact 19 rfl)
  g_law_sorted_parts := He.glo_ok X G (c.t.d.fact 20 rfl)
  g_law_text := He.glo_ok X G (c.t.d.fact 21 rfl)
  g_law_few_parts := He.glo_ok X G (c.t.d.fact 22 rfl)
  g_law_line_text := He.glo_ok X G (c.t.d.fact 23 rfl)
  g_law_desk_word := He.glo_ok X G (c.t.d.fact 24 rfl)
  g_law_names_word := He.glo_ok X G (c.t.d.fact 25 rfl)
  g_law_names := He.glo_ok X G (c.t.d.fact 26 rfl)
  g_law_shows := He.glo_ok X G (c.t.d.fact 27 rfl)
  g_law := He.glo_ok X G (c.t.d.fact 28 rfl)
  g_Program := He.glo_ok X G (c.t.d.fact 29 rfl)
  g_Desk := He.glo_ok X G (c.t.d.fact 30 rfl)
  g_TurnError := He.glo_ok X G (c.t.d.fact 31 rfl)
  g_BadProgram := He.glo_ok X G (c.t.d.fact 32 rfl)
  g_BadText := He.glo_ok X G (c.t.d.fact 33 rfl)
  g_TooMany := He.glo_ok X G (c.t.d.fact 34 rfl)
  g_NoBox := He.glo_ok X G (c.t.d.fact 35 rfl)
  g_NoTable := He.glo_ok X G (c.t.d.fact 36 rfl)
  g_NotWorking := He.glo_ok X G (c.t.d.fact 37 rfl)
  g_NothingDone := He.glo_ok X G (c.t.d.fact 38 rfl)
  g_NoLine := He.glo_ok X G (c.t.d.fact 39 rfl)
  g_NoName := He.glo_ok X G (c.t.d.fact 40 rfl)
  g_FORMS := He.glo_ok X G (c.t.d.fact 41 rfl)
  f_len := He.free_ok X G (c.t.d.fact 42 rfl)
  f_isinstance := He.free_ok X G (c.t.d.fact 43 rfl)
  f_all := He.free_ok X G (c.t.d.fact 44 rfl)
  f_enumerate := He.free_ok X G (c.t.d.fact 45 rfl)
  f_zip := He.free_ok X G (c.t.d.fact 46 rfl)
  f_sorted := He.free_ok X G (c.t.d.fact 47 rfl)
  f_set := He.free_ok X G (c.t.d.fact 48 rfl)
  f_range := He.free_ok X G (c.t.d.fact 49 rfl)
  f_str := He.free_ok X G (c.t.d.fact 50 rfl)
  f_int := He.free_ok X G (c.t.d.fact 51 rfl)
  f_sum := He.free_ok X G (c.t.d.fact 52 rfl)
  f_abs := He.free_ok X G (c.t.d.fact 53 rfl)
  f_tuple := He.free_ok X G (c.t.d.fact 54 rfl)
  f_list := He.free_ok X G (c.t.d.fact 55 rfl)
  f_super := He.free_ok X G (c.t.d.fact 56 rfl)
  f_bool := He.free_ok X G (c.t.d.fact 57 rfl)
  i_MOST_SIDES := He.int_ok X G (c.t.d.fact 58 rfl)
  i_MOST_TABLES := He.int_ok X G (c.t.d.fact 59 rfl)
  i_MOST_READINGS := He.int_ok X G (c.t.d.fact 60 rfl)
  i_MOST_STEP := He.int_ok X G (c.t.d.fact 61 rfl)
  i_MOST_FIGURES := He.int_ok X G (c.t.d.fact 62 rfl)
  i_MOST_NAME := He.int_ok X G (c.t.d.fact 63 rfl)
  t_LETTERS := He.str_ok X G (c.t.d.fact 64 rfl)
  t_DIGITS := He.str_ok X G (c.t.d.fact 65 rfl)
  cl_Program := He.cls_ok (c.t.d.fact 66 rfl)
  cl_Desk := He.cls_ok (c.t.d.fact 67 rfl)
  mk_Program := He.mkr_ok (c.t.d.fact 68 rfl)
  mk_Desk := He.mkr_ok (c.t.d.fact 69 rfl)
  no_Program_sides := He.noat_ok (c.t.d.fact 70 rfl)
  no_Program_tables := He.noat_ok (c.t.d.fact 71 rfl)
  no_Program_readings := He.noat_ok (c.t.d.fact 72 rfl)
  no_Desk_kept := He.noat_ok (c.t.d.fact 73 rfl)
  no_Desk_past := He.noat_ok (c.t.d.fact 74 rfl)
  m_Program_keep := He.meth_ok (c.t.d.fact 75 rfl)
  m_Desk_keep := He.meth_ok (c.t.d.fact 76 rfl)
  m_Desk_put := He.meth_ok (c.t.d.fact 77 rfl)
  m_Desk_undo := He.meth_ok (c.t.d.fact 78 rfl)
  m_Desk_program_of := He.meth_ok (c.t.d.fact 79 rfl)
  m_Desk_tell := He.meth_ok (c.t.d.fact 80 rfl)
  m_Desk_undoable := He.meth_ok (c.t.d.fact 81 rfl)
  x_BadText_NoName := He.exm_ok (c.t.d.fact 82 rfl)
  x_BadText_BadText := He.exm_ok (c.t.d.fact 83 rfl)
  x_NothingDone_NoName := He.exm_ok (c.t.d.fact 84 rfl)
  x_NothingDone_BadText := He.exm_ok (c.t.d.fact 85 rfl)
  x_NothingDone_BadProgram := He.exm_ok (c.t.d.fact 86 rfl)
  x_NothingDone_NothingDone := He.exm_ok (c.t.d.fact 87 rfl)
  x_NoLine_NoName := He.exm_ok (c.t.d.fact 88 rfl)
  x_NoLine_BadText := He.exm_ok (c.t.d.fact 89 rfl)
  x_NoLine_BadProgram := He.exm_ok (c.t.d.fact 90 rfl)
  x_NoLine_NothingDone := He.exm_ok (c.t.d.fact 91 rfl)
  x_NoLine_NoLine := He.exm_ok (c.t.d.fact 92 rfl)
  d_is_integer := c.t.d.def_ 0 (d := d_is_integer) rfl
  d_is_within := c.t.d.def_ 1 (d := d_is_within) rfl
  d_is_triple := c.t.d.def_ 2 (d := d_is_triple) rfl
  d_are_integers := c.t.d.def_ 3 (d := d_are_integers) rfl
  d_are_within := c.t.d.def_ 4 (d := d_are_within) rfl
  d_is_reading := c.t.d.def_ 5 (d := d_is_reading) rfl
  d_is_figures := c.t.d.def_ 6 (d := d_is_figures) rfl
  d_is_signed := c.t.d.def_ 7 (d := d_is_signed) rfl
  d_is_right := c.t.d.def_ 8 (d := d_is_right) rfl
  d_read_program := c.t.d.def_ 9 (d := d_read_program) rfl
  d_program_text := c.t.d.def_ 10 (d := d_program_text) rfl
  d_is_name := c.t.d.def_ 11 (d := d_is_name) rfl
  d_is_of_form := c.t.d.def_ 12 (d := d_is_of_form) rfl
  d_told_words := c.t.d.def_ 13 (d := d_told_words) rfl
  d_answer_of := c.t.d.def_ 14 (d := d_answer_of) rfl
  d_law_pool := c.t.d.def_ 15 (d := d_law_pool) rfl
  d_law_draw := c.t.d.def_ 16 (d := d_law_draw) rfl
  d_law_some := c.t.d.def_ 17 (d := d_law_some) rfl
  d_law_integer := c.t.d.def_ 18 (d := d_law_integer) rfl
  d_law_same := c.t.d.def_ 19 (d := d_law_same) rfl
  d_law_sorted_parts := c.t.d.def_ 20 (d := d_law_sorted_parts) rfl
  d_law_text := c.t.d.def_ 21 (d := d_law_text) rfl
  d_law_few_parts := c.t.d.def_ 22 (d := d_law_few_parts) rfl
  d_law_line_text := c.t.d.def_ 23 (d := d_law_line_text) rfl
  d_law_desk_word := c.t.d.def_ 24 (d := d_law_desk_word) rfl
  d_law_names_word := c.t.d.def_ 25 (d := d_law_names_word) rfl
  d_law_names := c.t.d.def_ 26 (d := d_law_names) rfl
  d_law_shows := c.t.d.def_ 27 (d := d_law_shows) rfl
  d_law := c.t.d.def_ 28 (d := d_law) rfl
  d_Program_init := c.t.d.def_ 29 (d := d_Program_init) rfl
  d_Program_keep := c.t.d.def_ 30 (d := d_Program_keep) rfl
  d_Desk_init := c.t.d.def_ 31 (d := d_Desk_init) rfl
  d_Desk_keep := c.t.d.def_ 32 (d := d_Desk_keep) rfl
  d_Desk_put := c.t.d.def_ 33 (d := d_Desk_put) rfl
  d_Desk_undo := c.t.d.def_ 34 (d := d_Desk_undo) rfl
  d_Desk_program_of := c.t.d.def_ 35 (d := d_Desk_program_of) rfl
  d_Desk_tell := c.t.d.def_ 36 (d := d_Desk_tell) rfl
  d_Desk_undoable := c.t.d.def_ 37 (d := d_Desk_undoable) rfl
  forms_d := c.t.tab 0 rfl
  forms_v := (He.ba c.tval).1
  forms_e := of_decide_eq_true (He.ba (He.ba c.tval).2).1
  er_BadText := (c.err prg_super 0 (e := e_BadText) rfl).1
  ef_BadText := (c.err prg_super 0 (e := e_BadText) rfl).2 _ rfl
  er_NothingDone := (c.err prg_super 1 (e := e_NothingDone) rfl).1
  er_NoLine := (c.err prg_super 2 (e := e_NoLine) rfl).1
end L2.Dk
set_option Elab.async false
set_option linter.all false
set_option maxRecDepth 100000
set_option maxHeartbeats 0
/-! The head: the top's run, in two looks a side. -/
namespace L2.Dk
open PySem PySem.W PySem.Calls PyProof.Rows
abbrev R : OpenRow := OpenLaw.row PySem.Challenge.rw_turnsneeded_k23_whole_long_desks_undone
abbrev qv : Program := view R.prog [140]
abbrev hk : Hook := hookM prg 4 wanted fa fn ts ers tv
noncomputable def ob (s : SharedT) : AlM := obsMG prg 4 wanted fa fn ts ers tv (HandSHeadRun.getT s)
theorem ob_eq (s : SharedT) : ob s = hk.obs s.abs := obsMG_eq (HandSHeadRun.getT_eq s)
def names0 : List PySem.Str := ["TurnError", "BadProgram", "NoLot", "BadText", "NoLog", "NoTable", "TooMany", "NoWorld", "NoBox", "NotWorking", "NothingDone", "NoLine", "NoName", "WORLDS"]
def names1 : List PySem.Str := ["is_integer", "is_within", "is_triple", "are_integers", "are_within", "is_lot_below", "check_world", "check_most", "divisor", "multiple", "fraction", "product", "MOST_SIDES", "MOST_TABLES"]
def names2 : List PySem.Str := ["MOST_READINGS", "MOST_STEP", "is_reading", "Program", "every", "check_table", "check_lot", "MOST_NESTED", "Summary", "still", "one_reading", "summary", "is_rounds", "is_built"]
def names3 : List PySem.Str := ["is_log", "check_log", "MOST_PAIRS", "check_box", "is_point_of", "check_pairs", "points_of", "less_step", "reads_of", "reads_within", "Web", "web_of", "is_all", "checked_waves"]
def names4 : List PySem.Str := ["counted", "checked_counts", "longest", "Tableau", "solved", "column_of", "far_columns", "task_of", "common_bottom", "whole", "told_of", "check_asked", "kept", "TURN"]
def names5 : List PySem.Str := ["goals_of", "reached_from", "parts_of", "parts", "tables_in", "level_of", "levels_of", "all_levels", "does_work", "works", "depths_of", "depths", "DIGITS", "MOST_FIGURES"]
def names6 : List PySem.Str := ["is_figures", "is_signed", "is_right", "read_program", "program_text", "words_of", "log_text", "MOST_ROUNDS", "path", "covering", "counts_of", "circuit_in", "circuits_of", "rounds"]
def names7 : List PySem.Str := ["begun_at", "with_put_in", "factor_for", "carried", "turn_of", "turn", "LETTERS", "MOST_NAME", "FORMS", "is_name", "is_of_form", "told_words", "joined", "answer_of"]
def names8 : List PySem.Str := ["Desk", "_law_pool", "_law_draw", "_law_some", "_law_integer", "_law_same", "_law_sorted_parts", "_law_text", "_law_few_parts", "_law_line_text", "_law_desk_word", "_law_names_word", "_law_names", "_law_shows"]
def names : List PySem.Str := names0 ++ names1 ++ names2 ++ names3 ++ names4 ++ names5 ++ names6 ++ names7 ++ names8
def RunObs {β : Type} (f : SharedT → β) (v : β) (w : World) : Prop := ∀ os : OsState, (HandSHeadRun.endF (HandSHeadRun.stepQ (HandSHeadRun.denQ HandSHeadRun.tabQ) R.prog w) 20000 R.prog w os).map f = some v
noncomputable def ob1 (s : SharedT) : Bool × List He.FnW := (fn.all fun d => d.ok (frM 4 wanted (HandSHeadRun.getT s)), fn.map fun d => He.fnW (frM 4 wanted (HandSHeadRun.getT s)) d.at_)
noncomputable def obA (w : World) (s : SharedT) := (HandSHeadRun.looksF R.prog (boot_heap w.params) s.abs, HandSHeadRun.seenQ qv names (importedModules R.prog.main.body) (fun s => xlAt qv [] s && recOk R.toRowW.records s) s.abs)
noncomputable def valA := (true, openGood qv names)
noncomputable def val1 : Bool × List He.FnW := (true, fn.map He.DefD.val)
noncomputable def obB (s : SharedT) : Bool × List (Option (List (Option (Str × Int)))) × List ErV × Bool :=
  (fa.all fun f => f.ok (frM 4 wanted (HandSHeadRun.getT s)), ts.map fun t => He.dicW (frM 4 wanted (HandSHeadRun.getT s)) (t.1 (frM 4 wanted (HandSHeadRun.getT s))), ers.map (erObs (frM 4 wanted (HandSHeadRun.getT s))), exB prg ers tv (frM 4 wanted (HandSHeadRun.getT s)))
noncomputable def valB (w : World) : Bool × List (Option (List (Option (Str × Int)))) × List ErV × Bool := (true, ts.map fun t => some (He.keysIn w.params t.2), ers.map Er.val, true)
theorem run_join {w : World} (ha : RunObs (obA w) valA w) (h1 : RunObs ob1 val1 w) (hb : RunObs obB (valB w) w) : HandSHeadRun.RunEq R qv hk ob 20000 names w := by
  intro os
  have a := ha os
  have c := h1 os
  have b := hb os
  cases e : (HandSHeadRun.endF (HandSHeadRun.stepQ (HandSHeadRun.denQ HandSHeadRun.tabQ) R.prog w) 20000 R.prog w os) with
  | none => rw [e] at a; cases a
  | some s =>
    rw [e] at a b c
    have a2 : obA w s = valA := Option.some.inj a
    have c2 : ob1 s = val1 := Option.some.inj c
    have b2 : obB s = valB w := Option.some.inj b
    show some (_, _, ob s) = _
    obtain ⟨a3, a4⟩ := Prod.mk.inj a2
    obtain ⟨a7, a8⟩ := Prod.mk.inj c2
    obtain ⟨b3, b4⟩ := Prod.mk.inj b2
    obtain ⟨b5, b6⟩ := Prod.mk.inj b4
    obtain ⟨b7, b8⟩ := Prod.mk.inj b6
    have eo : ob s = valM fn ts ers w := by
      show ((((fa.all fun f => f.ok (frM 4 wanted (HandSHeadRun.getT s))) && (fn.all fun d => d.ok (frM 4 wanted (HandSHeadRun.getT s))), fn.map fun d => He.fnW (frM 4 wanted (HandSHeadRun.getT s)) d.at_), ts.map fun t => He.dicW (frM 4 wanted (HandSHeadRun.getT s)) (t.1 (frM 4 wanted (HandSHeadRun.getT s)))), ers.map (erObs (frM 4 wanted (HandSHeadRun.getT s))), exB prg ers tv (frM 4 wanted (HandSHeadRun.getT s))) = _
      rw [a7, a8, b3, b5, b7, b8]
      rfl
    rw [a3, a4, eo]
    rfl
theorem runAF (w : World) : RunObs (obA (w.withFollow "special-get-raises" false)) valA (w.withFollow "special-get-raises" false) := by
  intro os
  kernel_rfl
theorem runAT (w : World) : RunObs (obA (w.withFollow "special-get-raises" true)) valA (w.withFollow "special-get-raises" true) := by
  intro os
  kernel_rfl
theorem runCF (w : World) : RunObs ob1 val1 (w.withFollow "special-get-raises" false) := by
  intro os
  kernel_rfl
theorem runCT (w : World) : RunObs ob1 val1 (w.withFollow "special-get-raises" true) := by
  intro os
  kernel_rfl
theorem runBF (w : World) : RunObs obB (valB (w.withFollow "special-get-raises" false)) (w.withFollow "special-get-raises" false) := by
  intro os
  kernel_rfl
theorem runBT (w : World) : RunObs obB (valB (w.withFollow "special-get-raises" true)) (w.withFollow "special-get-raises" true) := by
  intro os
  kernel_rfl
theorem run (w : World) : HandSHeadRun.RunEq R qv hk ob 20000 names w :=
  byRow2 "special-get-raises" (P := fun w => HandSHeadRun.RunEq R qv hk ob 20000 names w) (fun w => run_join (runAF w) (runCF w) (runBF w)) (fun w => run_join (runAT w) (runCT w) (runBT w)) w

end L2.Dk
set_option Elab.async false
set_option linter.all false
set_option maxRecDepth 100000
set_option maxHeartbeats 4000000
/-! Keys (r, d, (steps)): their hash, ==, what a set's search asks of them. -/
namespace L2.Dk
open PySem PySem.Spec PyProof.Rows
/-- a reading: who reads, what is read, the step -/
abbrev Rd := Int × Int × List Int
def nk (k : Rd) : NestedKey := .tup [.num k.1, .num k.2.1, .tup (k.2.2.map .num)]
def pd (k : Rd) : PyData := .tuple [.int k.1, .int k.2.1, .tuple (k.2.2.map .int)]
theorem nums_inj : ∀ {a b : List Int}, a.map NestedKey.num = b.map NestedKey.num → a = b
  | [], [], _ => rfl
  | [], _ :: _, h => nomatch h
  | _ :: _, [], h => nomatch h
  | x :: a, y :: b, h => by
    rw [List.map_cons, List.map_cons] at h
    injection h with h1 h2
    injection h1 with h1
    rw [h1, nums_inj h2]
theorem nk_inj {a b : Rd} (h : nk a = nk b) : a = b := by
  obtain ⟨a1, a2, a3⟩ := a
  obtain ⟨b1, b2, b3⟩ := b
  unfold nk at h
  injection h with h
  injection h with h1 h
  injection h1 with h1
  injection h with h2 h
  injection h2 with h2
  injection h with h3 _
  injection h3 with h3
  have e := nums_inj h3
  simp only at h1 h2 e
  rw [h1, h2, e]
theorem depth_nums : ∀ l : List Int, NestedKey.depthAll (l.map .num) = 0
  | [] => by simp [NestedKey.depthAll]
  | x :: l => by
    rw [List.map_cons]
    simp only [NestedKey.depthAll, NestedKey.depth]
    rw [depth_nums l]
    rfl
theorem nk_depth (k : Rd) : (nk k).depth = 2 := by
  unfold nk
  simp only [NestedKey.depth, NestedKey.depthAll, depth_nums]
  rfl
theorem dec_nk (a b : Rd) : decide (nk a = nk b) = decide (a = b) := by
  by_cases e : a = b
  · rw [e]; simp
  · rw [decide_eq_false e, decide_eq_false fun h => e (nk_inj h)]
/-- the tuple at a is the key k -/
def IsN (h : Heap) (k : Rd) (a : Addr) : Prop := NestedIs h (nk k) (.ref a)
def hN (w : World) (k : Rd) : Int := (nk k).hash w
theorem IsN.keep {h h' : Heap} {k : Rd} {a : Addr} (x : IsN h k a) (hk : ∀ b o, h.get? b = some o → h'.get? b = some o) : IsN h' k a :=
  NestedIs.at (fun b o _ _ e _ => hk b o e) _ _ x
theorem IsN.inj {h : Heap} {k j : Rd} {a : Addr} (x : IsN h k a) (y : IsN h j a) : k = j := nk_inj (NestedIs.inj _ _ _ x y)
theorem IsN.same {h h' : Heap} {k : Rd} {a b : Addr} {o : Obj} {es : Array (Int × Value)} {ep : Nat} {t : SetTable} (x : IsN h k b) (ho : h.get? a = some o) (hd : o.data = .set es ep t) (hs : Heap.SameBut a h h') : IsN h' k b :=
  NestedIs.at (fun c oc vs n e ed => (hs.2 c fun z => by
    rw [z, ho] at e
    rw [Option.some.inj e, ed] at hd
    cases hd).trans e) _ _ x
section
variable {P : Program} {w : World} {A : Around} {E : Value → Shared → Prop} {s : Shared}
theorem hashN {k : Rd} {x : Addr} {Q : Int → Shared → Prop} (hu : A.units + 2 < cLine) (hx : IsN s.heap k x) (h : Q (hN w k) { s with toks := s.toks + (nk k).draws }) : wpAny (model P w) A (pyHash (.ref x)) Q E s :=
  pyHash_key (nk k) _ A s Q hx (by rw [nk_depth]; exact hu) h
theorem eqN {k j : Rd} {x y : Addr} {Q : Bool → Shared → Prop} (hu : A.units + 2 < cLine) (hx : IsN s.heap k x) (hy : IsN s.heap j y) (h : Q (decide (k = j)) s) : wpAny (model P w) A (eqBool (.ref x) (.ref y)) Q E s :=
  eqAt_key (nk k) (nk j) A s _ _ hx hy (by rw [nk_depth, nk_depth]; exact hu) _ _ _ _ (by rw [← NestedKey.decide_eq, dec_nk]; exact h)
theorem quietN {k : Rd} {x : Addr} {Q : Bool → Shared → Prop} (hx : IsN s.heap k x) (h : Q true s) : wpAny (model P w) A (eqIsQuiet 8 (.ref x)) Q E s :=
  quiet_key (nk k) _ 8 s hx (by rw [nk_depth]; decide) A E Q h
/-- of no class statement, n levels down -/
def NoCls (P : Program) (w : World) (n : Nat) (s : Shared) (v : Value) : Prop := ∀ (A : Around) (E : Value → Shared → Prop) (Q : Bool → Shared → Prop), Q false s → wpAny (model P w) A (ofAClassStatement n v) Q E s
/-- hashed by value -/
def ByVal (P : Program) (w : World) (n : Nat) (s : Shared) (v : Value) : Prop := ∀ (A : Around) (E : Value → Shared → Prop) (Q : Bool → Shared → Prop), Q true s → wpAny (model P w) A (hashByValue n v) Q E s
theorem noCls_tup {n m : Nat} {a : Addr} {o : Obj} {vs : Array Value} (ho : s.heap.get? a = some o) (hc : o.cls = .type "tuple") (hd : o.data = .seq vs m) (hv : ∀ v ∈ vs.toList, NoCls P w n s v) : NoCls P w (n + 1) s (.ref a) := fun A E Q h => by
  unfold ofAClassStatement
  refine wpAny_bind (wpAny_typeOf (show s.TypeIs (.ref a) "tuple" from ⟨o, ho, hc⟩) ?_)
  dsimp only
  simp only [show (("tuple" : String) == "tuple") = true by decide, if_true, Bool.not_true, Bool.false_eq_true, if_false]
  try refine wpAny_bind (wpAny_pure ?_)
  try simp only [Bool.not_true, Bool.false_eq_true, if_false]
  show wpAny _ _ (seqItems? (.ref a) >>= _) _ _ s
  refine wpAny_bind (wpAny_seqItems ho hd ?_)
  dsimp only
  refine wpAny_bind ?_
  show wpAny _ _ (forIn vs _ _) _ _ s
  rw [← Array.forIn_toList]
  refine wpAny_forIn_list _ (fun rest r s' => r.1 = none ∧ s' = s ∧ ∀ v ∈ rest, NoCls P w n s v) _ ?_ ?_ _ _ ⟨rfl, rfl, hv⟩
  · rintro v rest r s' ⟨hr, rfl, all⟩
    refine wpAny_bind (all v List.mem_cons_self _ _ _ ?_)
    simp only [Bool.false_eq_true, if_false]
    exact wpAny_pure ⟨rfl, rfl, fun u hu => all u (List.mem_cons_of_mem _ hu)⟩
  · rintro ⟨r1, r2⟩ s' ⟨hr, rfl, _⟩
    simp only at hr
    subst hr
    exact wpAny_pure h
theorem byVal_tup {n m : Nat} {a : Addr} {o : Obj} {vs : Array Value} (ho : s.heap.get? a = some o) (hc : o.cls = .type "tuple") (hd : o.data = .seq vs m) (hv : ∀ v ∈ vs.toList, ByVal P w n s v) : ByVal P w (n + 1) s (.ref a) := fun A E Q h => by
  unfold hashByValue
  refine wpAny_bind (wpAny_specialOf (show s.TypeIs (.ref a) "tuple" from ⟨o, ho, hc⟩) F.slot_tuple_hash.lookup ?_)
  show wpAny _ _ (seqItems? (.ref a) >>= _) _ _ s
  refine wpAny_bind (wpAny_seqItems ho hd ?_)
  refine wpAny_bind ?_
  show wpAny _ _ (forIn vs _ _) _ _ s
  rw [← Array.forIn_toList]
  refine wpAny_forIn_list _ (fun rest r s' => r.1 = none ∧ s' = s ∧ ∀ v ∈ rest, ByVal P w n s v) _ ?_ ?_ _ _ ⟨rfl, rfl, hv⟩
  · rintro v rest r s' ⟨hr, rfl, all⟩
    refine wpAny_bind (all v List.mem_cons_self _ _ _ ?_)
    simp only [Bool.not_true, Bool.false_eq_true, if_false]
    exact wpAny_pure ⟨rfl, rfl, fun u hu => all u (List.mem_cons_of_mem _ hu)⟩
  · rintro ⟨r1, r2⟩ s' ⟨hr, rfl, _⟩
    simp only at hr
    subst hr
    exact wpAny_pure h
theorem noCls_num {i : Int} {v : Value} {n : Nat} (h : NestedIs s.heap (.num i) v) : NoCls P w n s v := fun A E Q q => by
  cases h with
  | bool _ => cases n <;> exact wpAny_pure q
  | int _ t => cases n <;> exact wpAny_pure q
theorem byVal_num {i : Int} {v : Value} {n : Nat} (h : NestedIs s.heap (.num i) v) : ByVal P w n s v := fun A E Q q => by
  cases h with
  | bool _ => cases n <;> exact wpAny_pure q
  | int _ t => cases n <;> exact wpAny_pure q
theorem each_num {Pr : Value → Prop} (hp : ∀ i v, NestedIs s.heap (.num i) v → Pr v) : ∀ (l : List Int) (vs : List Value), NestedAll s.heap (l.map .num) vs → ∀ v ∈ vs, Pr v
  | [], vs, h, v, hv => by
    cases h
    cases hv
  | i :: l, vs, h, v, hv => by
    rw [List.map_cons] at h
    cases h with
    | cons h1 h2 =>
      rcases List.mem_cons.mp hv with e | hv
      · rw [e]; exact hp _ _ h1
      · exact each_num hp l _ h2 v hv
theorem each_nk {Pr : Nat → Value → Prop} (num : ∀ n i v, NestedIs s.heap (.num i) v → Pr n v) (tup : ∀ (n m : Nat) (a : Addr) (o : Obj) (vs : Array Value), s.heap.get? a = some o → o.cls = .type "tuple" → o.data = .seq vs m → (∀ v ∈ vs.toList, Pr n v) → Pr (n + 1) (.ref a))
    {k : Rd} {x : Addr} (hx : IsN s.heap k x) : Pr 8 (.ref x) := by
  unfold IsN nk at hx
  cases hx with
  | tup h1 h2 h3 h4 =>
    refine tup 7 _ _ _ _ h1 h2 h3 fun v hv => ?_
    generalize Array.toList _ = vs at h4 hv
    cases h4 with
    | cons a1 h4 =>
      cases h4 with
      | cons a2 h4 =>
        cases h4 with
        | cons a3 h4 =>
          cases h4
          rcases List.mem_cons.mp hv with e | hv
          · rw [e]; exact num 7 _ _ a1
          rcases List.mem_cons.mp hv with e | hv
          · rw [e]; exact num 7 _ _ a2
          rcases List.mem_cons.mp hv with e | hv
          · rw [e]
            cases a3 with
            | tup g1 g2 g3 g4 => exact tup 6 _ _ _ _ g1 g2 g3 (each_num (num 6) _ _ g4)
          · cases hv
theorem noClsN {k : Rd} {x : Addr} (hx : IsN s.heap k x) : NoCls P w 8 s (.ref x) := each_nk (Pr := fun n v => NoCls P w n s v) (fun _ _ _ h => noCls_num h) (fun _ _ _ _ _ h1 h2 h3 h4 => noCls_tup h1 h2 h3 h4) hx
theorem byValN {k : Rd} {x : Addr} (hx : IsN s.heap k x) : ByVal P w 8 s (.ref x) := each_nk (Pr := fun n v => ByVal P w n s v) (fun _ _ _ h => byVal_num h) (fun _ _ _ _ _ h1 h2 h3 h4 => byVal_tup h1 h2 h3 h4) hx
/-- a search among such keys shows nothing -/
theorem seenN {k : Rd} {b : Addr} {Q : Bool → Shared → Prop} (hk : IsN s.heap k b) {ys : List Value} (hy : ∀ y ∈ ys, ∃ j c, y = Value.ref c ∧ IsN s.heap j c) (h : Q false s) : wpAny (model P w) A (searchCouldBeSeen (.ref b) ys) Q E s := by
  unfold searchCouldBeSeen
  refine wpAny_bind ?_
  refine wpAny_forIn_list _ (fun rest r s' => r.1 = none ∧ s' = s ∧ ∀ y ∈ rest, ∃ j c, y = Value.ref c ∧ IsN s.heap j c) _ ?_ ?_ _ _ ⟨rfl, rfl, hy⟩
  · rintro v rest r s' ⟨hr, rfl, all⟩
    obtain ⟨j, c, rfl, hc⟩ := all v List.mem_cons_self
    have more : ∀ y ∈ rest, ∃ j c, y = Value.ref c ∧ IsN s'.heap j c := fun u hu => all u (List.mem_cons_of_mem _ hu)
    dsimp only
    by_cases hv : (b == c || (carriedByValue (.ref b) && carriedByValue (.ref c))) = true
    · exact wp_if_pos hv (wpAny_pure ⟨rfl, rfl, more⟩)
    · refine wp_if_neg hv (wpAny_bind (quietN hk ?_))
      simp only [Bool.not_true, Bool.false_eq_true, if_false]
      refine wpAny_bind (quietN hc ?_)
      simp only [Bool.not_true, Bool.false_eq_true, if_false]
      refine wpAny_bind (noClsN hk _ _ _ ?_)
      simp only [Bool.false_eq_true, if_false]
      refine wpAny_bind (noClsN hc _ _ _ ?_)
      simp only [Bool.false_eq_true, if_false]
      exact wpAny_pure ⟨rfl, rfl, more⟩
  · rintro ⟨r1, r2⟩ s' ⟨hr, rfl, _⟩
    simp only at hr
    subst hr
    exact wpAny_pure h
end
end L2.Dk
set_option Elab.async false
set_option linter.all false
set_option maxRecDepth 100000
set_option maxHeartbeats 4000000
/-! A set of at most four readings: adding to it. -/
namespace L2.Dk
open PySem PySem.Spec PyProof.Rows
def rowsN (hf : Rd → Int) (L : List (Addr × Rd)) : List (Int × Value) := L.map fun p => (hf p.2, Value.ref p.1)
/-- the set at a holds the keys of L, in its table's order -/
structure SetN (hf : Rd → Int) (w : World) (h : Heap) (a : Addr) (L : List (Addr × Rd)) (es : Array (Int × Value)) (ep : Nat) (t : SetTable) : Prop where
  ob : ∃ o, h.get? a = some o ∧ o.ExactSet ∧ o.data = .set es ep t
  rows : es.toList = rowsN hf L
  tab : TabOk t (L.map fun p => hf p.2)
  nd : (L.map (·.2)).Nodup
  key : ∀ p ∈ L, IsN h p.2 p.1
  plain : t.plain = true
  led : w.params.followText "set-order" = true ∨ t.led = true
  mask : t.mask = 7
  few : L.length ≤ 4
section
variable {hf : Rd → Int} {P : Program} {w : World} {A : Around} {E : Value → Shared → Prop} {s : Shared} {a : Addr} {L : List (Addr × Rd)} {es : Array (Int × Value)} {ep : Nat} {t : SetTable}
theorem SetN.size (R : SetN hf w s.heap a L es ep t) : es.size = L.length := by
  have h := congrArg List.length R.rows
  rw [Array.length_toList] at h
  rw [h]
  unfold rowsN
  rw [List.length_map]
theorem SetN.fits (R : SetN hf w s.heap a L es ep t) : t.fits es.size = true := by
  have h1 := R.tab.sz
  rw [List.length_map] at h1
  have h2 := R.size
  have h3 := R.few
  have h4 := R.mask
  unfold SetTable.fits SetTable.fill
  rw [R.tab.dm, Bool.and_eq_true, beq_iff_eq, decide_eq_true_eq]
  show t.place.size = es.size ∧ t.place.size + 0 ≤ t.mask
  omega
theorem SetN.entry (R : SetN hf w s.heap a L es ep t) {i : Nat} {p : Addr × Rd} (h : L[i]? = some p) : es[i]? = some (hf p.2, Value.ref p.1) := by
  rw [← Array.getElem?_toList, R.rows]
  unfold rowsN
  rw [List.getElem?_map, h]
  rfl
/-- the probe on its way to a hash, k steps on -/
abbrev pr (t : SetTable) (h : Int) (k : Nat) : SetTable.Probe := nth t.mask (runAt t.mask (SetTable.bits h % (t.mask + 1)) (SetTable.bits h)) k
theorem pr_dummy (m : Nat) : ∀ (n : Nat) (p : SetTable.Probe), p.dummy = none → (nth m p n).dummy = none
  | 0, p, h => h
  | n + 1, p, h => pr_dummy m n (adv m p) (by unfold adv; split <;> exact h)
theorem pr_add (t : SetTable) (h : Int) (c q : Nat) : nth t.mask (pr t h c) q = pr t h (c + q) := (nth_add t.mask c _ q).symm

/-- the search from the c-th step on: what stands at none of the steps behind isn't there -/
theorem searchN (R : SetN hf w s.heap a L es ep t) {x : Addr} {k : Rd} (hx : IsN s.heap k x) (hu : A.units + 2 < cLine) {K : Nat} (hKf : K < 10 * SetTable.turns t.mask)
    (hK : way t.mask (hf k) K ∉ t.place.toList) (hKb : ∀ c, c < K → way t.mask (hf k) c ∈ t.place.toList) {Q : SetFound → Shared → Prop}
    (yes : k ∈ L.map (·.2) → Q (.there none) s) (no : k ∉ L.map (·.2) → Q (.free (way t.mask (hf k) K) false) s) :
    ∀ (f c : Nat) (stand : Option SetTable.Probe), stand.getD (t.probeStart (hf k)) = pr t (hf k) c → c ≤ K → K - c < f →
      (∀ (i : Nat) p, L[i]? = some p → p.2 = k → ∃ c', c ≤ c' ∧ c' < K ∧ t.place.toList[i]? = some (way t.mask (hf k) c')) →
      wpAny (model P w) A (setSearchFrom a (.ref x) (hf k) true f stand) Q E s := by
  intro f
  induction f with
  | zero => exact fun c stand _ _ hlt _ => absurd hlt (Nat.not_lt_zero _)
  | succ f ih =>
    intro c stand hst hc hlt hre
    obtain ⟨o, ho, hex, hd⟩ := R.ob
    have gw : ¬ t.gaveWay = true := by
      unfold SetTable.gaveWay
      rw [R.mask]
      decide
    rw [setSearchFrom_succ]
    refine wpAny_bind (wpAny_setState_of ho hd R.fits ?_)
    dsimp only
    refine wp_if_neg gw ?_
    try refine wpAny_bind (wpAny_pure ?_)
    have at_ : ∀ q, (nth t.mask (pr t (hf k) c) q).j = way t.mask (hf k) (c + q) := fun q => congrArg SetTable.Probe.j (pr_add t _ c q)
    have key : ∀ (i : Nat) p, L[i]? = some p → (fun i => (es[i]?.map (·.1)).getD 0) i = hf p.2 := fun i p hp => by
      show (es[i]?.map (·.1)).getD 0 = _
      rw [R.entry hp]
      rfl
    rcases go_spec t R.tab.ris R.tab.dm (fun i => (es[i]?.map (·.1)).getD 0) (hf k) (10 * SetTable.turns t.mask) (K - c) (pr t (hf k) c) (pr_dummy _ c _ rfl) (by omega)
      (fun q hq => by rw [at_]; exact hKb (c + q) (by omega)) (by rw [at_, show c + (K - c) = K by omega]; exact hK) with ⟨q, i, hq, hi, hh, hno, hgo⟩ | ⟨hno, hgo⟩
    · have hp' : t.probe (fun i => (es[i]?.map (·.1)).getD 0) (hf k) (stand.getD (t.probeStart (hf k))) = some (.candidate (way t.mask (hf k) (c + q)) i (pr t (hf k) (c + (q + 1)))) := by
        rw [hst, ← at_, ← pr_add]
        exact hgo
      rw [hp']
      dsimp only
      rw [at_] at hi
      have hil : i < L.length := by
        have h1 : i < t.place.toList.length := (List.getElem?_eq_some_iff.mp hi).1
        have h2 := R.tab.sz
        rw [List.length_map] at h2
        rw [Array.length_toList] at h1
        omega
      obtain ⟨p, hp⟩ : ∃ p, L[i]? = some p := ⟨_, List.getElem?_eq_getElem hil⟩
      have hm : p ∈ L := List.mem_of_getElem? hp
      have rest : wpAny (model P w) A (searchRest a (.ref x) (hf k) true f es t (way t.mask (hf k) (c + q)) i (pr t (hf k) (c + (q + 1)))) Q E s := by
        unfold searchRest
        rw [R.entry hp]
        dsimp only
        refine wpAny_bind (wpAny_holding (eqN hu (R.key p hm) hx ?_))
        refine wpAny_bind (wpAny_setState_of ho hd R.fits ?_)
        dsimp only
        by_cases e : p.2 = k
        · exact wp_if_pos (by simp [e]) (wpAny_pure (yes (List.mem_map.mpr ⟨p, hm, e⟩)))
        · refine wp_if_neg (by simp [e]) ?_
          try refine wpAny_bind (wpAny_pure ?_)
          rw [sameMem]
          dsimp only
          have hsl : t.slot (way t.mask (hf k) (c + q)) = .live i := slot_live R.tab.ris hi
          simp only [if_true, hsl, R.entry hp]
          refine wpAny_bind (wpAny_isSame_ref_self (wpAny_bind (wpAny_pure ?_)))
          simp only [if_true]
          refine wp_if_neg (by simp [e]) ?_
          refine ih (c + (q + 1)) _ rfl (by omega) (by omega) fun i0 p0 h0 e0 => ?_
          obtain ⟨c', a1, a2, a3⟩ := hre i0 p0 h0 e0
          refine ⟨c', ?_, a2, a3⟩
          rcases Nat.lt_trichotomy c' (c + q) with z | z | z
          · exact absurd ((key i0 p0 h0).trans (congrArg (hf) e0)) (hno (c' - c) i0 (by omega) (by rw [at_, show c + (c' - c) = c' by omega]; exact a3))
          · rw [z] at a3
            have s0 := slot_live R.tab.ris a3
            rw [hsl] at s0
            injection s0 with s0
            rw [← s0, hp] at h0
            exact absurd ((congrArg Prod.snd (Option.some.inj h0)).trans e0) e
          · omega
      by_cases hl : t.led = true
      · refine wp_if_neg (by simp [hl]) ?_
        try refine wpAny_bind (wpAny_pure ?_)
        exact rest
      · refine wp_if_pos (by simp [hl]) (wpAny_bind (seenN hx (fun y hy => ?_) ?_))
        · obtain ⟨e, he, ee⟩ := List.mem_map.mp hy
          have he1 : e ∈ es ∧ e.1 = hf k := by simpa using he
          have he2 : e ∈ es.toList := by simpa using he1.1
          rw [R.rows] at he2
          obtain ⟨p2, hp2, e2⟩ := List.mem_map.mp he2
          exact ⟨p2.2, p2.1, by rw [← ee, ← e2], R.key p2 hp2⟩
        · refine wp_if_neg (by decide) ?_
          try refine wpAny_bind (wpAny_pure ?_)
          exact rest
    · have hp' : t.probe (fun i => (es[i]?.map (·.1)).getD 0) (hf k) (stand.getD (t.probeStart (hf k))) = some (.empty (way t.mask (hf k) K) none) := by
        have e2 : way t.mask (hf k) K = (nth t.mask (pr t (hf k) c) (K - c)).j := by rw [at_, show c + (K - c) = K by omega]
        rw [hst, e2]
        exact hgo
      rw [hp']
      dsimp only
      refine wpAny_pure (no fun hm => ?_)
      obtain ⟨p0, h0, e0⟩ := List.mem_map.mp hm
      obtain ⟨i0, hi0, ei⟩ := List.getElem_of_mem h0
      have h00 : L[i0]? = some p0 := by rw [List.getElem?_eq_getElem hi0, ei]
      obtain ⟨c', a1, a2, a3⟩ := hre i0 p0 h00 e0
      exact absurd ((key i0 p0 h00).trans (congrArg (hf) e0)) (hno (c' - c) i0 (by omega) (by rw [at_, show c + (c' - c) = c' by omega]; exact a3))

theorem rowsN_put (L : List (Addr × Rd)) (p : Nat) (x : Addr) (k : Rd) : rowsN hf (L.take p ++ (x, k) :: L.drop p) = (rowsN hf L).take p ++ (hf k, Value.ref x) :: (rowsN hf L).drop p := by
  unfold rowsN
  rw [List.map_append, List.map_cons, List.map_take, List.map_drop]
/-- one more -/
theorem addN (R : SetN hf w s.heap a L es ep t) {x : Addr} {k : Rd} (hx : IsN s.heap k x) (hu : A.units + 2 < cLine) (hfew : L.length ≤ 3) {Q : Bool → Shared → Prop}
    (hQ : ∀ b h' L' es' ep' t', Heap.SameBut a s.heap h' → SetN hf w h' a L' es' ep' t' → (k ∈ L.map (·.2) ∧ L' = L ∨ L'.Perm ((x, k) :: L)) → Q b { s with heap := h' }) :
    wpAny (model P w) A (setAddHashed a (.ref x) (hf k)) Q E s := by
  obtain ⟨o, ho, hex, hd⟩ := R.ob
  have hm7 := R.mask
  unfold setAddHashed
  refine wpAny_holding ?_
  rw [show (100000 : Nat) = 99999 + 1 from rfl, setAddHashedIn_succ]
  refine wpAny_bind (wpAny_setState_of ho hd R.fits ?_)
  dsimp only
  refine wp_if_neg (by simp [byScan, Value.scannable]) ?_
  try refine wpAny_bind (wpAny_pure ?_)
  obtain ⟨K, hKf, hK, hKb⟩ := R.tab.first (by rw [List.length_map]; omega) (hf k)
  have hbig : K < 100000 := by
    have h2 : 10 * SetTable.turns t.mask ≤ 1420 := by
      unfold SetTable.turns
      omega
    omega
  unfold setSearch
  refine wpAny_bind (searchN R hx hu hKf hK hKb (fun hm => ?_) (fun hm => ?_) 100000 0 none rfl (Nat.zero_le _) (by omega) fun i p hp e => ?_)
  · dsimp only
    exact wpAny_pure (hQ false s.heap L es ep t (Heap.SameBut.refl a s.heap) R (.inl ⟨hm, rfl⟩))
  · dsimp only
    refine wpAny_bind (wpAny_setState_of ho hd R.fits ?_)
    dsimp only
    obtain ⟨q1, q2, q3, q4, q5, q6, q7, q8, q9⟩ := R.tab.put hK hKb
    have hp1 : (t.put (way t.mask (hf k) K)).1.plain = true := by rw [q6]; exact R.plain
    generalize t.put (way t.mask (hf k) K) = pt at q1 q3 q4 q5 q6 q7 q8 q9 hp1 ⊢
    obtain ⟨t1, p⟩ := pt
    dsimp only at q1 q3 q4 q5 q6 q7 q8 q9 hp1 ⊢
    subst q1
    first
      | (refine wpAny_bind ?_; refine wp_if_pos hp1 ?_; refine byValN hx _ _ _ ?_)
      | refine wp_if_pos hp1 (wpAny_bind (byValN hx _ _ _ ?_))
    simp only [if_true]
    have hin : (SetTable.insertAt es (SetTable.below t.place (way t.mask (hf k) K)) (hf k, Value.ref x)).toList = rowsN hf (L.take (SetTable.below t.place (way t.mask (hf k) K)) ++ (x, k) :: L.drop (SetTable.below t.place (way t.mask (hf k) K))) := by
      rw [SetTable.toList_insertAt, rowsN_put, R.rows]
    generalize SetTable.below t.place (way t.mask (hf k) K) = p at q2 q3 hin ⊢
    have pm := put_perm L p (x, k)
    have hlen : (L.take p ++ (x, k) :: L.drop p).length = L.length + 1 := pm.length_eq
    have hhs : (L.take p ++ (x, k) :: L.drop p).map (fun p => hf p.2) = (L.map fun p => hf p.2).take p ++ hf k :: (L.map fun p => hf p.2).drop p := by
      rw [List.map_append, List.map_cons, List.map_take, List.map_drop]
    rw [← hhs] at q3
    have nd1 : ((L.take p ++ (x, k) :: L.drop p).map (·.2)).Nodup := by
      refine (pm.map (·.2)).nodup_iff.mpr ?_
      rw [List.map_cons]
      exact List.nodup_cons.mpr ⟨hm, R.nd⟩
    have hes : (SetTable.insertAt es p (hf k, Value.ref x)).size = L.length + 1 := by
      have h := congrArg List.length hin
      unfold rowsN at h
      rw [Array.length_toList, List.length_map, hlen] at h
      exact h
    generalize SetTable.insertAt es p (hf k, Value.ref x) = es1 at hin hes ⊢
    generalize L.take p ++ (x, k) :: L.drop p = L1 at pm hlen q3 nd1 hin
    refine wpAny_bind (wpAny_storeSet_of ho hd ?_ (by rw [hes, sizeLine_eq]; omega))
    have sb : Heap.SameBut a s.heap (s.heap.update a (Obj.putSet es1 t1)) := Heap.SameBut.update ..
    have ho1 := L2.store_at (es' := es1) (t' := t1) ho hd
    generalize s.heap.update a (Obj.putSet es1 t1) = h1 at sb ho1 ⊢
    have key1 : ∀ p ∈ L1, IsN h1 p.2 p.1 := fun p hp => by
      rcases List.mem_cons.mp (pm.mem_iff.mp hp) with e | hp
      · rw [e]; exact hx.same ho hd sb
      · exact (R.key p hp).same ho hd sb
    have nf : ¬ t1.tooFull = true := by
      unfold SetTable.tooFull
      rw [decide_eq_true_eq, q9, List.length_map, q4]
      omega
    first
      | refine wp_if_neg (by simp [nf]) ?_
      | (refine wpAny_bind ?_; refine wp_if_neg (by simp [nf]) ?_; refine wpAny_pure ?_)
    exact wpAny_pure (hQ true h1 L1 es1 (ep + 1) t1 sb ⟨⟨_, ho1, ⟨hex.1, hex.2.1, hex.2.2⟩, rfl⟩, hin, q3, nd1, key1, hp1, by rw [q5]; exact R.led, q4.trans hm7, by rw [hlen]; omega⟩ (.inr pm))
  · have hi : (L.map fun p => hf p.2)[i]? = some (hf k) := by
      rw [List.getElem?_map, hp, ← e]
      rfl
    have hil : i < t.place.toList.length := by
      have h1 : i < L.length := (List.getElem?_eq_some_iff.mp hp).1
      have h2 := R.tab.sz
      rw [List.length_map] at h2
      rw [Array.length_toList]
      omega
    have hj := List.getElem?_eq_getElem hil
    obtain ⟨c, hc, e2⟩ := R.tab.before hK hi hj
    exact ⟨c, Nat.zero_le _, hc, by rw [hj, e2]⟩
end
end L2.Dk
set_option Elab.async false
set_option linter.all false
set_option maxRecDepth 100000
set_option maxHeartbeats 4000000
/-! set(xs) of a list, whatever its items are; sorted of that set. -/
namespace L2.Dk
open PySem PySem.Spec PyProof.Rows
section
variable {P : Program} {w : World} {A : Around} {E : Value → Shared → Prop} {s : Shared}
abbrev freshSet (w : World) : Obj := { cls := .type "set", dict := none, data := .set #[] 0 (.fresh 0 0 (!w.params.followText "set-order")) }
/-- the loop: T i is what stands once i items were added -/
theorem loop_gen {I S : Addr} {fp wr : List Addr} {G : Array GenState → Array GenState → Prop} {n : Nat} {Pv : Nat → Value → Prop} {St : Nat → Shared → Prop} {R : Result → Shared → Prop} (T : Nat → Heap → Prop)
    (W : WalksS P w A.in1 I fp wr G n Pv St) (hSf : S ∉ fp) (hk : ∀ i h h', T i h → (∀ b o, b ∉ wr → h.get? b = some o → h'.get? b = some o) → T i h')
    (step : ∀ i v (s' : Shared) (Q : Bool → Shared → Prop), i < n → Pv i v → T i s'.heap → (∀ b h' k, Heap.SameBut S s'.heap h' → T (i + 1) h' → s'.toks ≤ k → Q b { s' with heap := h', toks := k }) → wpAny (model P w) A.in1 (setAdd S v) Q E s')
    (hE : ∀ e s', E e s' → R (.error e) s') :
    ∀ (k i : Nat) (s : Shared), n - i = k → i ≤ n → St i s → T i s.heap → (∀ s', Moved (S :: wr) G s s' → T n s'.heap → R (.ok (.ret .none)) s') →
      codeAny (model P w) A (.builtin "set.update.loop" ⟨[.ref S, .ref I], []⟩) R s := by
  have hSw : S ∉ wr := fun h => hSf (W.sub _ h)
  have up : ∀ b ∈ wr, b ∈ S :: wr := fun b hb => List.mem_cons_of_mem _ hb
  intro k
  induction k with
  | zero =>
    intro i s hk' hi hst hT hR
    obtain rfl : i = n := by omega
    refine codeAny_builtin F.entry_set_update_loop ?_
    rw [Around.under_plainId F.plain_set_update_loop _]
    show wpAny _ A.in1 (pyNext (.ref I) >>= _) _ _ s
    refine wpAny_bind (W.done s _ _ hst fun s' hm => ?_)
    show wpAny _ A.in1 (ret Value.none) _ _ s'
    exact wpAny_pure (hR s' (hm.mono up) (hk _ _ _ hT fun b o hb e => hm.heap b o hb e))
  | succ k ih =>
    intro i s hk' hi hst hT hR
    have hlt : i < n := by omega
    refine codeAny_builtin F.entry_set_update_loop ?_
    rw [Around.under_plainId F.plain_set_update_loop _]
    show wpAny _ A.in1 (pyNext (.ref I) >>= _) _ _ s
    refine wpAny_bind (W.item i s _ _ hlt hst fun v s' hP hst' hm => ?_)
    have hT' := hk _ _ _ hT fun b o hb e => hm.heap b o hb e
    show wpAny _ A.in1 (holding [v] (setAdd S v) >>= _) _ _ s'
    refine wpAny_bind (wpAny_holding (wpAny_mono (step i v s' _ hlt hP hT' fun b h' tk hs hT2 htk => ?_) (fun _ _ q => q) fun e s2 q => hE e s2 q))
    refine wpAny_pure ⟨plainId_quiet F.plain_set_update_loop _, ih (i + 1) _ (by omega) hlt (W.frame _ s' _ _ hst' htk fun b hb o e => ?_) hT2 fun s'' hm'' hT'' => ?_⟩
    · rw [hs.2 b (fun h : b = S => hSf (by rw [← h]; exact hb))]; exact e
    · refine hR s'' (Moved.trans W.gtrans ((hm.mono up).then_heap htk fun b o hb e => ?_) hm'') hT''
      rw [hs.2 b (fun h : b = S => hb (by rw [h]; exact List.mem_cons_self))]; exact e
set_option maxRecDepth 100000 in
set_option maxHeartbeats 3200000 in
/-- set(xs): T holds behind the last item -/
theorem set_of_list {l : Addr} {items : Array Value} (T : Nat → Heap → Prop) {Q : Value → Shared → Prop} (hh : A.handled = none) (hl : s.heap.IsList l items)
    (t0 : ∀ h', (∀ b o, s.heap.get? b = some o → h'.get? b = some o) → h'.get? s.heap.objs.size = some (freshSet w) → T 0 h')
    (tk : ∀ i h h', T i h → (∀ b o, b ≠ s.heap.objs.size + 1 → h.get? b = some o → h'.get? b = some o) → T i h')
    (told : ∀ i h, T i h → ∀ b o, s.heap.get? b = some o → h.get? b = some o)
    (step : ∀ (A' : Around) i v (s' : Shared) (Q : Bool → Shared → Prop), A'.units ≤ A.units + 4 → items[i]? = some v → T i s'.heap → (∀ b h' k, Heap.SameBut s.heap.objs.size s'.heap h' → T (i + 1) h' → s'.toks ≤ k → Q b { s' with heap := h', toks := k }) →
      wpAny (model P w) A' (setAdd s.heap.objs.size v) Q (fun _ _ => False) s')
    (h : ∀ (h' : Heap) (k : Nat), T items.size h' → Q (.ref s.heap.objs.size) { s with heap := h', toks := k }) :
    wpAny (model P w) A (call (.type "set") [.ref l]) Q E s := by
  obtain ⟨c, tl, hmro⟩ := F.called_set.mro
  have hmade := F.called_set.made
  have hsub := F.called_set.sub
  refine wpAny_call (codeAny_of_tree ?_)
  show wpAny _ _ (callAny (.type "set") _) _ _ _
  refine wpAny_pure ⟨Code.quiet_builtin _ (by decide +kernel), codeAny_builtin F.entry_type_call ?_⟩
  rw [Around.under_plain (weight_type_call_type "set" [.ref l] []) rfl]
  have h1 := F.called_set.notType
  have h2 := F.called_set.canCreate
  have hct := F.typeCall_set_1 (.ref l)
  repeat (any_goals (first | assumption | wp_step))
  refine codeAny_mono (code_set_led1 (.ref l) (E := E) (Q₁ := fun obj s₁ => obj = .ref s.heap.objs.size ∧ s₁ = { s with heap := s.heap.push (freshSet w) }) ⟨rfl, rfl⟩) fun r s₁ hr => ?_
  cases r with
  | error e => exact hr
  | ok fl =>
    cases fl with
    | ret obj =>
      obtain ⟨rfl, rfl⟩ := hr
      have hS : (s.heap.push (freshSet w)).get? s.heap.objs.size = some (freshSet w) := Heap.get?_push_size _ rfl
      have hT : Shared.TypeIs { s with heap := s.heap.push (freshSet w) } (.ref s.heap.objs.size) "set" := ⟨_, hS, rfl⟩
      have hli := F.called_set.init.lookup
      have hbi := F.called_set.init.bind (.ref s.heap.objs.size)
      repeat (any_goals (first | assumption | wp_step))
      refine codeAny_mono (codeAny_call_builtin (R := wants (fun r s₂ => r = .none ∧ ∃ h' k, s₂ = { s with heap := h', toks := k } ∧ T items.size h') E) F.called_set.init.plain F.entry_set_init (check_set_init_1 hT ?_)) fun r₂ s₂ hr₂ => ?_
      · obtain ⟨ol, hol, hcl, nl, hdl⟩ := hl
        obtain ⟨ocls, odict, odata, oslots⟩ := ol
        simp only at hcl hdl
        subst hcl; subst hdl
        have hol' : (s.heap.push (freshSet w)).get? l = some { cls := .type "list", dict := odict, data := .seq items nl, slots := oslots } := Heap.get?_push_of_some _ hol
        have hsls := F.sub_list_set
        have hslf := F.sub_list_frozenset
        have hne : (Value.type "list" == Value.type "dict") = false := by decide
        have hl1 : (s.heap.push (freshSet w)).IsList l items := ⟨_, hol', rfl, nl, rfl⟩
        unfold Builtin.«set.__init__» noKeywords Builtin.Frozenset.updateFrom
        generalize hPI : pyIter = PI
        wp_walk
        subst hPI
        refine wpAny_pyIter_list hl1 ?_
        refine wpAny_bind (wpAny_runValue ?_)
        have hlS : l < s.heap.objs.size := Heap.lt_size hol
        have hz1 : (s.heap.push (freshSet w)).objs.size = s.heap.objs.size + 1 := Heap.size_push ..
        have hneI : l ≠ (s.heap.push (freshSet w)).objs.size := by
          rw [hz1]; exact Nat.ne_of_lt (Nat.lt_succ_of_lt hlS)
        have hSf : s.heap.objs.size ∉ [(s.heap.push (freshSet w)).objs.size, l] := by
          rw [hz1]; simp only [List.mem_cons, List.mem_singleton, List.not_mem_nil, or_false, not_or]
          exact ⟨Nat.ne_of_lt (Nat.lt_succ_self _), Nat.ne_of_gt hlS⟩
        refine loop_gen (E := fun _ _ => False) T ((Walks.list (by simp [hh]) _ l hneI items).toS) hSf
          (fun i h h' q k => tk i h h' q fun b o hb e => k b o (by rw [hz1]; simpa using hb) e)
          (fun i v s' Q' hi hv q k => step _ i v s' Q' (by first | exact Nat.le_refl _ | (simp only [Around.in1_units]; omega)) hv q k) (fun _ _ z => z.elim) (items.size - 0) 0 _ (by omega) (Nat.zero_le _)
          ⟨⟨_, Heap.get?_push_size _ rfl, rfl, rfl⟩, (hl1.push _)⟩ (t0 _ (fun b o e => Heap.get?_push_of_some _ (Heap.get?_push_of_some _ e)) (Heap.get?_push_of_some _ hS)) fun s' hm hT' => ?_
        obtain ⟨h', g2, d', tk', os'⟩ := s'
        have eg : g2 = s.gens := hm.gens
        have ed : d' = s.drawn := hm.drawn
        have eo : os' = s.os := hm.os
        subst eg; subst ed; subst eo
        show wpAny _ _ _ _ _ _
        refine wpAny_pure ?_
        show wpAny _ _ (ret Value.none) _ _ _
        exact wpAny_pure ⟨rfl, h', tk', rfl, hT'⟩
      · cases r₂ with
        | error e => exact hr₂
        | ok fl₂ =>
          cases fl₂ with
          | ret r =>
            obtain ⟨rfl, h', k, rfl, hT'⟩ := hr₂
            repeat (any_goals (first | assumption | wp_step))
            exact h _ _ hT'
          | _ => exact hr₂.elim
    | _ => exact hr.elim

end
end L2.Dk
set_option Elab.async false
set_option linter.all false
set_option maxRecDepth 100000
set_option maxHeartbeats 4000000
/-! sorted of a set, whatever its items read as. -/
namespace L2.Dk
open PySem PySem.Spec PyProof.Rows
section
variable {P : Program} {w : World} {A : Around} {E : Value → Shared → Prop} {s : Shared}
/-- what stands for a permutation -/
theorem each_perm {α β : Type} {R : α → β → Prop} {us vs : List α} (p : us.Perm vs) : ∀ {bs : List β}, PySem.W.EachIs R vs bs → ∃ cs, PySem.W.EachIs R us cs ∧ cs.Perm bs := by
  induction p with
  | nil => intro bs h; exact ⟨bs, h, .refl _⟩
  | cons x _ ih =>
    intro bs h
    cases h with
    | cons h1 h2 =>
      obtain ⟨cs, h3, h4⟩ := ih h2
      exact ⟨_ :: cs, .cons h1 h3, h4.cons _⟩
  | swap x y l =>
    intro bs h
    cases h with
    | cons h1 h2 =>
      cases h2 with
      | cons h3 h4 => exact ⟨_, .cons h3 (.cons h1 h4), .swap ..⟩
  | trans _ _ ih1 ih2 =>
    intro bs h
    obtain ⟨cs, h1, h2⟩ := ih2 h
    obtain ⟨ds, h3, h4⟩ := ih1 h1
    exact ⟨ds, h3, h4.trans h2⟩
/-- sorted(set), the items reading as enc of L -/
theorem sorted_of_set {β : Type} {enc : β → PyData} {Rv : Value → β → Prop} {a : Addr} {es : Array (Int × Value)} {ep : Nat} {t : SetTable} {L : List β} {Q : Value → Shared → Prop} (hh : A.handled = none)
    (ho : ∃ o, s.heap.get? a = some o ∧ o.ExactSet ∧ o.data = .set es ep t) (hf : t.fits es.size = true) (hsz : es.size < 64) (hr : Ris t.place.toList) (hl : w.params.followText "set-order" = true ∨ t.led = true)
    (e : PySem.W.EachIs Rv (es.toList.map (·.2)) L) (rd : ∀ h', (∀ b o, s.heap.get? b = some o → h'.get? b = some o) → ∀ v b, Rv v b → Reads h' v (enc b) []) (hal : ∀ L' : List β, PySem.W.AllAlike (L'.map enc)) (hk : ∀ L' : List β, PySem.W.Sortable (L'.map enc))
    (hu : ∀ b, A.units + 2 + (enc b).depth < cLine)
    (h : ∀ s' p (out : Array Value) (c : Nat) (L' : List β), (∀ b o, s.heap.get? b = some o → s'.heap.get? b = some o) → s'.gens = s.gens → s'.os = s.os → s.heap.objs.size ≤ p →
      s'.heap.get? p = some (seqObj "list" out c) → PySem.W.EachIs Rv out.toList (L'.mergeSort (PySem.W.dataLe false enc)) → L'.Perm L → Q (.ref p) s') :
    wpAny (model P w) A (call (.builtin "sorted") [.ref a]) Q E s := by
  obtain ⟨o, ho, hex, hd⟩ := ho
  refine Calls.call_function_entry kind_sorted plain_sorted entry_sorted (args_sorted1 _) ?_
  unfold Builtin.«sorted»
  refine wpAny_bind (m := checkCount "sorted" 1 1 _) (wpAny_pure ?_)
  refine wpAny_bind (collect_set (A := A.in1) hh ⟨o, ho, hex.1, hd⟩ hf (by unfold scanBound; omega) hr hl fun s1 vs k1 hz g1 o1 pm => ?_)
  obtain ⟨L1, e1, pL⟩ := each_perm pm e
  have hvl : vs.length < 64 := by
    rw [pm.length_eq, List.length_map, Array.length_toList]; exact hsz
  refine wpAny_bind (wpAny_newList ?_ (by rw [sizeLine_eq]; omega))
  have hoL : (s1.heap.push (seqObj "list" vs.toArray 0)).get? s1.heap.objs.size = some (seqObj "list" vs.toArray 0) := Heap.get?_push_size _ rfl
  refine wpAny_bind (wpAny_holding (PySem.W.list_sort_data (s := { s1 with heap := s1.heap.push (seqObj "list" vs.toArray 0) }) hoL e1
    (e1.mono fun v b r => ⟨[], rd _ (fun b o e => Heap.get?_push_of_some _ (k1 b o e)) v b r, List.not_mem_nil⟩) (hal _) (hk _) (by rw [← e1.length, sizeLine_eq]; omega)
    (fun b _ => by have := hu b; simp only [Around.in1_units]; omega) fun out ho1 e2 => ?_))
  obtain ⟨c, hc⟩ := sortedHeap_at (vs := vs) (out := List.toArray out) hoL
  refine wpAny_pure ⟨_, rfl, h _ s1.heap.objs.size (List.toArray out) c L1 (fun b u e => ?_) g1 o1 hz hc (by simpa using e2) pL⟩
  have q := k1 b u e
  have hlt := Heap.lt_size q
  show (sortedHeap (s1.heap.push (seqObj "list" vs.toArray 0)) s1.heap.objs.size vs (List.toArray out)).get? b = some u
  rw [sortedHeap_old (Nat.ne_of_lt hlt) (by rw [size_push']; exact Nat.lt_succ_of_lt hlt)]
  exact Heap.get?_push_of_some _ q
end
end L2.Dk
set_option Elab.async false
set_option linter.all false
set_option maxRecDepth 100000
set_option maxHeartbeats 4000000
/-! sorted(set(x)) as one expression: readings, texts. -/
namespace L2.Dk
open PySem PySem.Spec PyProof.Rows
/-! ### the order of readings -/
def rlt (a b : Rd) : Prop := PySem.W.dataLt (pd a) (pd b) = true
theorem toks_ints : ∀ (a b : List Int) (u v : List (Int ⊕ List Nat)), PySem.W.keyToksAll (a.map .int) ++ u = PySem.W.keyToksAll (b.map .int) ++ v → a = b
  | [], [], _, _, _ => rfl
  | [], y :: b, u, v, h => by
    rw [List.map_nil, List.map_cons] at h
    simp only [PySem.W.keyToksAll, List.cons_append] at h
    injection h with h _
    injection h with h
    cases h
  | x :: a, [], u, v, h => by
    rw [List.map_nil, List.map_cons] at h
    simp only [PySem.W.keyToksAll, List.cons_append] at h
    injection h with h _
    injection h with h
    cases h
  | x :: a, y :: b, u, v, h => by
    rw [List.map_cons, List.map_cons] at h
    simp only [PySem.W.keyToksAll, PySem.W.keyToks, List.cons_append, List.nil_append] at h
    injection h with _ h
    injection h with h1 h
    injection h1 with h1
    rw [h1, toks_ints a b u v h]
theorem toks_pd {a b : Rd} (h : PySem.W.keyToks (pd a) = PySem.W.keyToks (pd b)) : a = b := by
  obtain ⟨a1, a2, a3⟩ := a
  obtain ⟨b1, b2, b3⟩ := b
  unfold pd at h
  simp only [PySem.W.keyToksAll, PySem.W.keyToks, List.cons_append, List.nil_append] at h
  injection h with _ h
  injection h with h1 h
  injection h1 with h1
  injection h with _ h
  injection h with h2 h
  injection h2 with h2
  injection h with _ h
  rw [h1, h2, toks_ints _ _ _ _ h]
theorem rlt_of {a b : Rd} (h : PySem.W.dataLt (pd b) (pd a) = false) (ne : a ≠ b) : rlt a b := by
  unfold rlt
  cases e : PySem.W.dataLt (pd a) (pd b) with
  | true => rfl
  | false => exact absurd (toks_pd (lex_total _ _ e h)) ne
theorem rlt_sorted {β : Type} (f : β → Rd) (l : List β) (nd : (l.map f).Nodup) : (l.mergeSort (PySem.W.dataLe false fun b => pd (f b))).Pairwise fun a b => rlt (f a) (f b) := by
  have h1 := PySem.W.sort_pairwise (PySem.W.sortLe_total (PyProof.Rows.listOrd PyProof.Rows.itemOrd) false fun b => PySem.W.keyToks (pd (f b))) l
  have h2 : ((l.mergeSort (PySem.W.dataLe false fun b => pd (f b))).map f).Nodup := ((List.mergeSort_perm l _).map f).nodup_iff.mpr nd
  have h3 := List.pairwise_map.mp h2
  refine (h1.and h3).imp fun {a b} ⟨q, n⟩ => rlt_of ?_ n
  have q' : (!PySem.W.dataLt (pd (f b)) (pd (f a))) = true := q
  simpa using q'
/-! ### a reading in the heap -/
def RdH (h : Heap) (k : Rd) (a : Addr) : Prop := ∃ o vs n, h.get? a = some o ∧ o.cls = .type "tuple" ∧ o.data = .seq vs n ∧ ∃ t u b, vs.toList = [.int k.1 t, .int k.2.1 u, .ref b] ∧
  ∃ o2 ws m, h.get? b = some o2 ∧ o2.cls = .type "tuple" ∧ o2.data = .seq ws m ∧ IntsAre ws.toList k.2.2
theorem nested_ints {h : Heap} : ∀ {vs : List Value} {ns : List Int}, IntsAre vs ns → NestedAll h (ns.map .num) vs
  | _, _, .nil => .nil
  | _, _, .cons n t r => .cons (.int n t) (nested_ints r)
theorem reads_ints {h : Heap} : ∀ {vs : List Value} {ns : List Int}, IntsAre vs ns → ReadsAll h vs (ns.map .int) []
  | _, _, .nil => .nil
  | _, _, .cons n t r => by
    have q := ReadsAll.cons (Reads.int (h := h) n t) (reads_ints r)
    exact q
theorem RdH.isN {h : Heap} {k : Rd} {a : Addr} (x : RdH h k a) : IsN h k a := by
  obtain ⟨o, vs, n, h1, h2, h3, t, u, b, ev, o2, ws, m, g1, g2, g3, g4⟩ := x
  refine .tup h1 h2 h3 ?_
  rw [ev]
  exact .cons (.int _ _) (.cons (.int _ _) (.cons (.tup g1 g2 g3 (nested_ints g4)) .nil))
theorem RdH.reads {h : Heap} {k : Rd} {a : Addr} (x : RdH h k a) : Reads h (.ref a) (pd k) [] := by
  obtain ⟨o, vs, n, h1, h2, h3, t, u, b, ev, o2, ws, m, g1, g2, g3, g4⟩ := x
  refine .tuple h1 h2 h3 ?_
  rw [ev]
  have q := ReadsAll.cons (Reads.int (h := h) k.1 t) (.cons (Reads.int k.2.1 u) (.cons (Reads.tuple g1 g2 g3 (reads_ints g4)) .nil))
  exact q
theorem RdH.keep {h h' : Heap} {k : Rd} {a : Addr} (x : RdH h k a) (hk : ∀ b o, h.get? b = some o → h'.get? b = some o) : RdH h' k a := by
  obtain ⟨o, vs, n, h1, h2, h3, t, u, b, ev, o2, ws, m, g1, g2⟩ := x
  exact ⟨o, vs, n, hk _ _ h1, h2, h3, t, u, b, ev, o2, ws, m, hk _ _ g1, g2⟩
/-- .. and in the abstract heap -/
def RdAt (K : PySem.W.Frag) (H : Hp) (a : Addr) (k : Rd) : Prop := ∃ b, SqT K H a [.int k.1, .int k.2.1, .ref b] ∧ SqT K H b (k.2.2.map V.int)
theorem Inv_rdH {X : Cx} {pins : List (Addr × Obj)} {σ : St} {H : Hp} {s : Shared} {a : Addr} {k : Rd} (I : Inv X pins σ H s) (h : RdAt X.K H a k) : RdH s.heap k a := by
  obtain ⟨b, h1, h2⟩ := h
  obtain ⟨its, r, ⟨o, ho, hc, n, hd⟩, _⟩ := I.tuple h1
  obtain ⟨its2, r2, ⟨o2, ho2, hc2, n2, hd2⟩, _⟩ := I.tuple h2
  refine ⟨o, _, n, ho, hc, hd, ?_⟩
  cases r with
  | cons e1 r =>
    cases r with
    | cons e2 r =>
      cases r with
      | cons e3 r =>
        cases r
        obtain ⟨t, rfl⟩ := e1
        obtain ⟨u, rfl⟩ := e2
        cases e3
        exact ⟨t, u, b, rfl, o2, _, n2, ho2, hc2, hd2, Vals.ints r2⟩
theorem alike_pd (a b : Rd) : PySem.W.alike (pd a) (pd b) = true := by
  unfold pd
  simp [PySem.W.alike, PySem.W.alikeAll, PySem.W.alike_ints]
theorem depth_pd (a : Rd) : (pd a).depth = 2 := by
  unfold pd
  simp only [PyData.depth, PyData.depthAll, PySem.W.depth_ints]
  rfl
/-- item <= another, of readings -/
def rLeR (K : PySem.W.Frag) : R2 := fun x y H Q => ∃ (a b : Addr) (j k : Rd), x = .ref a ∧ y = .ref b ∧ RdAt K H a j ∧ RdAt K H b k ∧ Q (.bl (!PySem.W.dataLt (pd k) (pd j))) H
theorem op_leR {X : Cx} (hu : X.A.units + 2 < cLine) : OpR X (compareOp .LtE) (rLeR X.K) := by
  intro pins s σ H x y v u Q I rx ry h
  obtain ⟨a, b, j, k, rfl, rfl, ha, hb, q⟩ := h
  cases rx
  cases ry
  exact PySem.W.le_data (Inv_rdH I ha).reads (Inv_rdH I hb).reads (alike_pd _ _) (by intro z; cases z) (by rw [depth_pd, depth_pd]; exact hu) (fin_bl I q rfl)

/-! ### sorted(set(x)) -/
def SSR (X : Cx) (r : V → Hp → VK → Prop) : Prop := ∀ (pins : List (Addr × Obj)) (s : Shared) (σ : St) (H : Hp) (x : V) (v : Value) (Q : VK), Inv X pins σ H s → RelV x v → r x H Q →
  wpAny (model X.prog X.w) X.A (call (.type "set") [v]) (fun u s1 => wpAny (model X.prog X.w) X.A (call (.builtin "sorted") [u]) (EP X pins σ Q) X.xe s1) X.xe s
section
variable {X : Cx}
theorem pe_ss {r : V → Hp → VK → Prop} {e : Expr} {te : TE} {p p2 pos pos2 : Pos} (rule : SSR X r) (hg : Gl X "sorted") (hm : X.mg "sorted" = none) (hg2 : Gl X "set") (hm2 : X.mg "set" = none) (he : PE X e te)
    (h1 : starEach [Expr.Call (.Name "set" p2) [e] [] pos2] X.env = [(false, eval (Expr.Call (.Name "set" p2) [e] [] pos2) X.env)] := by rfl) (h2 : starEach [e] X.env = [(false, eval e X.env)] := by rfl) :
    PE X (.Call (.Name "sorted" p) [.Call (.Name "set" p2) [e] [] pos2] [] pos) (tUn r te) := by
  refine ⟨fun pins s σ H Q I h => ?_⟩
  refine wpAny_Call_Name_kw (ld_blt I hg hm (u := .builtin "sorted") (by decide +kernel) ?_)
  refine PyProof.Rows.callWith_builtin1 ?_ h1 rfl
  rw [h1]
  show wpAny _ _ (spliced ((false, eval (Expr.Call (.Name "set" p2) [e] [] pos2) X.env) :: [])) _ _ s
  refine Calls.spliced_cons (wpAny_Call_Name_kw (ld_blt I hg2 hm2 (u := .type "set") (by decide +kernel) ?_))
  refine PyProof.Rows.callWith_type1 ?_ h2 rfl
  rw [h2]
  show wpAny _ _ (spliced ((false, eval e X.env) :: [])) _ _ s
  refine Calls.spliced_cons (thn (he.run pins s σ H _ I h) fun v s1 ⟨x, H1, I1, r1, q1⟩ => Calls.spliced_nil ?_)
  exact thn (rule pins s1 σ H1 x v Q I1 r1 q1) fun u s2 q => Calls.spliced_nil q
end
/-! ### readings -/
def rSSN (K : PySem.W.Frag) : V → Hp → VK → Prop := fun x H Q => ∃ (l : Addr) (ks : List (Addr × Rd)), x = .ref l ∧ SqL K H l (ks.map fun p => V.ref p.1) ∧ (∀ p ∈ ks, RdAt K H p.1 p.2) ∧ ks.length ≤ 4 ∧
  ∀ (L : List (Addr × Rd)) (p : Addr), H p = none → (∀ q ∈ L, q ∈ ks) → L.length ≤ 4 → (L.Pairwise fun a b => rlt a.2 b.2) → Q (.ref p) (upd H p (.lst (L.map fun q => V.ref q.1)))
theorem refsN {ks : List (Addr × Rd)} {us : List Value} : Vals (ks.map fun p => V.ref p.1) us → us = ks.map fun p => Value.ref p.1 := by
  induction ks generalizing us with
  | nil => intro h; cases h; rfl
  | cons p ks ih =>
    intro h
    cases h with
    | cons r t =>
      cases r
      rw [ih t]
      rfl
theorem valsN : ∀ (ks : List (Addr × Rd)), Vals (ks.map fun p => V.ref p.1) (ks.map fun p => Value.ref p.1)
  | [] => .nil
  | p :: ks => .cons rfl (valsN ks)
theorem eachN {Rv : Value → Addr × Rd → Prop} : ∀ (ks : List (Addr × Rd)), (∀ p ∈ ks, Rv (.ref p.1) p) → PySem.W.EachIs Rv (ks.map fun p => Value.ref p.1) ks
  | [], _ => .nil
  | p :: ks, h => .cons (h p List.mem_cons_self) (eachN ks fun q hq => h q (List.mem_cons_of_mem _ hq))
theorem eachN_refs {Rv : Value → Addr × Rd → Prop} (hr : ∀ v p, Rv v p → v = .ref p.1) : ∀ {vs : List Value} {ks : List (Addr × Rd)}, PySem.W.EachIs Rv vs ks → vs = ks.map fun p => Value.ref p.1
  | _, _, .nil => rfl
  | _, _, .cons h t => by rw [hr _ _ h, eachN_refs hr t]; rfl
/-- a list that sorted has made, tracked -/
theorem sorted_laid {X : Cx} {pins : List (Addr × Obj)} {σ : St} {H : Hp} {s s' : Shared} {Q : VK} {p : Addr} {xs : List V} {out : Array Value} {c : Nat} (I : Inv X pins σ H s) (k : ∀ b o, s.heap.get? b = some o → s'.heap.get? b = some o) (g : s'.gens = s.gens) (o : s'.os = s.os)
    (hp : s.heap.objs.size ≤ p) (hg : s'.heap.get? p = some (seqObj "list" out c)) (hv : Vals xs out.toList) (hz : xs.length ≤ sizeLine) (q : H p = none → Q (.ref p) (upd H p (.lst xs))) : EP X pins σ Q (.ref p) s' := by
  have hn : H p = none := I.hok.fresh hp
  have J : Inv X pins σ (upd H p (.lst xs)) s' := I.call' (ch := []) o (Un.laid k hp hn) (I.hok.laid k hp ⟨hz, out.toList, c, hv, hg⟩) (by rw [g]; exact I.bare) (fun _ z => nomatch z)
  exact ⟨.ref p, _, J, rfl, q hn⟩
theorem ssN {X : Cx} (hc : X.calm = true) (hu : X.A.units + 64 < cLine) : SSR X (rSSN X.K) := by
  intro pins s σ H x v Q I rx h
  obtain ⟨l, ks, rfl, hl, hk, hf, q⟩ := h
  cases rx
  obtain ⟨its, rv, pl, hz⟩ := I.list hl
  have ei := refsN rv
  have kd : ∀ p ∈ ks, RdH s.heap p.2 p.1 := fun p hp => Inv_rdH I (hk p hp)
  obtain ⟨T, hT⟩ : ∃ T : Nat → Heap → Prop, T = fun i h => (∀ b o, s.heap.get? b = some o → h.get? b = some o) ∧ ∃ L es ep t, SetN (hN X.w) X.w h s.heap.objs.size L es ep t ∧ (∀ p ∈ L, p ∈ ks) ∧ L.length ≤ i := ⟨_, rfl⟩
  have isz : its.toArray.size = ks.length := by rw [ei]; simp
  refine set_of_list (P := X.prog) (w := X.w) T (I.ok.hd hc) pl.isList (fun h' k hS => ?_) (fun i h h' ht k => ?_) (fun i h ht => ?_) (fun A' i v s' Q' hA hv ht hQ => ?_) (fun h' k ht => ?_)
  · rw [hT]
    exact ⟨k, [], #[], 0, _, ⟨⟨_, hS, ⟨rfl, rfl, rfl⟩, rfl⟩, rfl, ⟨List.Pairwise.nil, rfl, rfl, .inl rfl, fun x hx => (by cases hx), fun i h j hi => (by simp at hi)⟩, List.nodup_nil, fun p hp => (by cases hp), rfl,
      by show _ ∨ (!X.w.params.followText "set-order") = true; cases X.w.params.followText "set-order" <;> simp, rfl, by simp⟩, fun p hp => (by cases hp), Nat.le_refl _⟩
  · rw [hT] at ht ⊢
    obtain ⟨k0, L, es, ep, t, R, sub, hle⟩ := ht
    have lt : ∀ b o, s.heap.get? b = some o → b ≠ s.heap.objs.size + 1 := fun b o e => Nat.ne_of_lt (Nat.lt_succ_of_lt (Heap.lt_size e))
    have k1 : ∀ b o, s.heap.get? b = some o → h'.get? b = some o := fun b o e => k b o (lt b o e) (k0 b o e)
    obtain ⟨o, ho, r⟩ := R.ob
    exact ⟨k1, L, es, ep, t, ⟨⟨o, k _ _ (Nat.ne_of_lt (Nat.lt_succ_self _)) ho, r⟩, R.rows, R.tab, R.nd, fun p hp => ((kd p (sub p hp)).keep k1).isN, R.plain, R.led, R.mask, R.few⟩, sub, hle⟩
  · rw [hT] at ht
    exact ht.1
  · rw [hT] at ht
    obtain ⟨k0, L, es, ep, t, R, sub, hle⟩ := ht
    have hik : i < ks.length := by
      rw [← isz]
      exact (Array.getElem?_eq_some_iff.mp hv).1
    obtain ⟨p, hp⟩ : ∃ p, ks[i]? = some p := ⟨_, List.getElem?_eq_getElem hik⟩
    have ev : v = .ref p.1 := by
      rw [ei] at hv
      simp only [List.getElem?_toArray, List.getElem?_map, hp, Option.map_some] at hv
      exact (Option.some.inj hv).symm
    subst ev
    have hm := List.mem_of_getElem? hp
    have hx : IsN s'.heap p.2 p.1 := ((kd p hm).keep k0).isN
    unfold setAdd
    refine wpAny_holding (wpAny_bind (hashN (by omega) hx ?_))
    refine addN (hf := hN X.w) (s := { s' with toks := s'.toks + (nk p.2).draws }) R hx (by omega) (by omega) fun b h' L' es' ep' t' sb R' c => hQ b h' _ sb ?_ (Nat.le_add_right _ _)
    rw [hT]
    have k1 : ∀ b o, s.heap.get? b = some o → h'.get? b = some o := fun b o e => (sb.2 b (Nat.ne_of_lt (Heap.lt_size e))).trans (k0 b o e)
    refine ⟨k1, L', es', ep', t', R', ?_⟩
    rcases c with ⟨_, e⟩ | pm
    · rw [e]; exact ⟨sub, Nat.le_succ_of_le hle⟩
    · refine ⟨fun z hz => ?_, by rw [pm.length_eq, List.length_cons]; omega⟩
      rcases List.mem_cons.mp (pm.mem_iff.mp hz) with e | hz
      · rw [e]; exact hm
      · exact sub z hz
  · rw [hT] at ht
    obtain ⟨k0, L, es, ep, t, R, sub, hle⟩ := ht
    have esn : es.toList.map (·.2) = L.map fun p => Value.ref p.1 := by
      rw [R.rows]
      unfold rowsN
      rw [List.map_map]
      rfl
    refine sorted_of_set (s := { s with heap := h', toks := k }) (enc := fun p : Addr × Rd => pd p.2) (Rv := fun v p => v = .ref p.1 ∧ RdH s.heap p.2 p.1) (L := L) (I.ok.hd hc) R.ob (R.fits (s := { s with heap := h', toks := k })) ?_ R.tab.ris R.led
      (by rw [esn]; exact eachN L fun p hp => ⟨rfl, kd p (sub p hp)⟩) (fun h2 k2 v b ⟨e, r⟩ => ?_) (fun L' d hd d' hd' => ?_) (fun L' => .inl fun d hd => ?_) (fun b => by rw [depth_pd]; omega) fun s' p out c L' k1 g1 o1 hp hg e pm => ?_
    · have := R.size (s := { s with heap := h', toks := k })
      have := R.few
      omega
    · rw [e]
      exact (r.keep fun b o e => k2 b o (k0 b o e)).reads
    · obtain ⟨a, _, rfl⟩ := List.mem_map.mp hd
      obtain ⟨b, _, rfl⟩ := List.mem_map.mp hd'
      exact alike_pd _ _
    · obtain ⟨a, _, rfl⟩ := List.mem_map.mp hd
      exact ⟨_, _, rfl⟩
    · have e2 := eachN_refs (fun v p h => h.1) e
      have pm2 := (List.mergeSort_perm L' (PySem.W.dataLe false fun p : Addr × Rd => pd p.2)).trans pm
      refine sorted_laid I (fun b o e => k1 b o (k0 b o e)) g1 o1 ?_ hg (by rw [e2]; exact valsN _) ?_ fun hn => q _ p hn (fun z hz => sub z (pm2.mem_iff.mp hz)) ?_ (rlt_sorted (fun p : Addr × Rd => p.2) L' ((pm.map (·.2)).nodup_iff.mpr R.nd))
      · obtain ⟨o, ho, _⟩ := R.ob
        have h1 : s.heap.objs.size < h'.objs.size := Heap.lt_size ho
        have h2 : h'.objs.size ≤ p := hp
        omega
      · rw [List.length_map, pm2.length_eq, sizeLine_eq]
        have := R.few
        omega
      · rw [pm2.length_eq]
        exact R.few
end L2.Dk
set_option Elab.async false
set_option linter.all false
set_option maxRecDepth 100000
set_option maxHeartbeats 4000000
/-! sorted(set(x)), x a list of texts. -/
namespace L2.Dk
open PySem PySem.Spec PyProof.Rows
/-- a set of texts at a, its entries es -/
structure SetS (P : Program) (w : World) (h : Heap) (a : Addr) (es : Array (Int × Value)) (ep : Nat) (t : SetTable) : Prop where
  ob : ∃ o, h.get? a = some o ∧ o.ExactSet ∧ o.data = .set es ep t
  good : ∀ e ∈ es.toList, ∃ x tk, e.2 = Value.str x tk ∧ e.1 = (PySem.strKind P w).hash x
  small : es.size < scanBound
  fits : t.fits es.size = true
  ris : Ris t.place.toList
  led : w.params.followText "set-order" = true ∨ t.led = true
section
variable {P : Program} {w : World} {A : Around} {E : Value → Shared → Prop} {s : Shared} {a : Addr} {es : Array (Int × Value)} {ep : Nat} {t : SetTable}
theorem elemsS {l : List (Int × Value)} (g : ∀ e ∈ l, ∃ x tk, e.2 = Value.str x tk ∧ e.1 = (PySem.strKind P w).hash x) : ElemsOf (PySem.strKind P w) l := fun e he => by
  obtain ⟨x, tk, h1, h2⟩ := g e he
  exact ⟨⟨x, by rw [h1]; exact strKind_is P w x tk, h2⟩, by rw [h1]; rfl⟩
/-- behind the place of a new entry: stored, and laid anew where the table is full -/
theorem addS_end {g : Bool → Sem Unit} (hg : ∀ (b : Bool) (s₁ : Shared) (Q' : Unit → Shared → Prop), Q' () s₁ → wpAny (model P w) A (g b) Q' E s₁) {o : Obj} (ho : s.heap.get? a = some o) (hex : o.ExactSet) (hd : o.data = .set es ep t)
    {es1 : Array (Int × Value)} {t2 : SetTable} (g1 : ∀ e ∈ es1.toList, ∃ x tk, e.2 = Value.str x tk ∧ e.1 = (PySem.strKind P w).hash x) (hb1 : es1.size < scanBound) (hf2 : t2.fits es1.size = true) (hr : Ris t2.place.toList)
    (hl : w.params.followText "set-order" = true ∨ t2.led = true) {wasDummy : Bool} {R : Option Bool → Shared → Prop}
    (hR : ∀ h' es' ep' t', Heap.SameBut a s.heap h' → SetS P w h' a es' ep' t' → es'.toList.Perm es1.toList → R (some true) { s with heap := h' }) :
    wpAny (model P w) A (do
        storeSet a es1 t2
        if (!wasDummy && t2.tooFull) = true then do
            g (relayAll t2 es1 (SetTable.grown es1.size)).2.2
            storeSet a (relayAll t2 es1 (SetTable.grown es1.size)).1 (relayAll t2 es1 (SetTable.grown es1.size)).2.1
            pure (some true)
          else pure (some true)) R E s := by
  refine wpAny_bind (wpAny_storeSet_of ho hd ?_ (fits_of_scanBound hb1))
  have ho1 := store_at (es' := es1) (t' := t2) ho hd
  have sb1 := Heap.SameBut.update s.heap a (Obj.putSet es1 t2)
  split
  · have pm := relayAll_perm t2 es1 (SetTable.grown es1.size)
    have hf3 := relayAll_fits t2 es1 (SetTable.grown es1.size)
    have hr3 := relayAll_ris t2 es1 (SetTable.grown es1.size)
    have hl3 := relayAll_led t2 es1 (SetTable.grown es1.size)
    generalize relayAll t2 es1 (SetTable.grown es1.size) = Z at pm hf3 hr3 hl3 ⊢
    obtain ⟨es2, t3, gave⟩ := Z
    dsimp only at pm hf3 hr3 hl3 ⊢
    have hsz : es2.size = es1.size := by rw [← Array.length_toList, pm.length_eq, Array.length_toList]
    have hb2 : es2.size < scanBound := by rw [hsz]; exact hb1
    refine wpAny_bind (hg _ _ _ ?_)
    refine wpAny_bind (wpAny_storeSet_of ho1 rfl ?_ (fits_of_scanBound hb2))
    have ho2 := store_at (es' := es2) (t' := t3) ho1 rfl
    exact wpAny_pure (hR _ es2 _ t3 (sb1.trans (Heap.SameBut.update _ a _)) ⟨⟨_, ho2, hex, rfl⟩, fun e he => g1 e (pm.mem_iff.mp he), hb2, hf3, hr3, hl.imp id fun z => by rw [hl3]; exact z⟩ pm)
  · exact wpAny_pure (hR _ es1 _ t2 sb1 ⟨⟨_, ho1, hex, rfl⟩, g1, hb1, hf2, hr, hl⟩ (.refl _))
theorem addS {x : Str} {tk : Tok} {Q : Bool → Shared → Prop} (R : SetS P w s.heap a es ep t) (room : es.size + 1 < scanBound)
    (hQ : ∀ b h' es' ep' t', Heap.SameBut a s.heap h' → SetS P w h' a es' ep' t' → (∀ e ∈ es'.toList, e ∈ es.toList ∨ ∃ u, e.2 = Value.str x u) → 0 < es'.size → es'.size ≤ es.size + 1 → Q b { s with heap := h' }) :
    wpAny (model P w) A (setAddHashed a (.str x tk) ((PySem.strKind P w).hash x)) Q E s := by
  obtain ⟨⟨o, ho, hex, hd⟩, g, hb, hf, hr, hl⟩ := R
  have hkey : (PySem.strKind P w).is x (.str x tk) = true := strKind_is P w x tk
  have hsc : (Value.str x tk).scannable = true := rfl
  have hel : ElemsOf (PySem.strKind P w) es.toList := elemsS g
  unfold setAddHashed setAddHashedIn
  refine wpAny_holding (wpAny_bind (wpAny_setState_of ho hd hf ?_))
  dsimp only
  rw [byScan_of hsc hb hel]
  simp only [↓reduceIte]
  unfold setAddByScan
  refine wpAny_bind ?_
  refine wpAny_bind (wpAny_rule ?_)
  refine wpAny_bind (wpAny_setScan_of hkey ho hd hf hel ?_)
  cases hfi : List.findIdx? (fun e => (PySem.strKind P w).is x e.2) es.toList with
  | some j =>
    dsimp only
    obtain ⟨hj, pj, _⟩ := List.findIdx?_eq_some_iff_getElem.mp hfi
    refine wpAny_pure (wpAny_pure ?_)
    rw [Array.length_toList] at hj
    exact hQ false s.heap es ep t (Heap.SameBut.refl a s.heap) ⟨⟨o, ho, hex, hd⟩, g, hb, hf, hr, hl⟩ (fun e he => .inl he) (by omega) (Nat.le_succ _)
  | none =>
    dsimp only
    have hgw : ∀ (b : Bool) {s₁ : Shared} {Q' : Unit → Shared → Prop}, Q' () s₁ → wpAny (model P w) A (match b with | true => rule "set.scan.the-table-gave-way" | false => pure ()) Q' E s₁ :=
      fun b s₁ Q' q => by cases b <;> first | exact wpAny_pure q | exact wpAny_rule q
    have pm := layNew_perm t es ((PySem.strKind P w).hash x) (.str x tk)
    have hf1 := layNew_fits t es ((PySem.strKind P w).hash x) (.str x tk)
    have hr1 := layNew_ris t es ((PySem.strKind P w).hash x) (.str x tk) hr
    have hl1 := layNew_led t es ((PySem.strKind P w).hash x) (.str x tk)
    generalize layNew t es ((PySem.strKind P w).hash x) (.str x tk) = Z at pm hf1 hr1 hl1 ⊢
    obtain ⟨es1, t1, wasDummy, gave⟩ := Z
    dsimp only at pm hf1 hr1 hl1 ⊢
    rw [Array.toList_push] at pm
    have pc : es1.toList.Perm (((PySem.strKind P w).hash x, Value.str x tk) :: es.toList) := pm.trans (List.perm_append_singleton _ _)
    have g1 : ∀ e ∈ es1.toList, ∃ x tk, e.2 = Value.str x tk ∧ e.1 = (PySem.strKind P w).hash x := fun e he => by
      rcases List.mem_cons.mp (pc.mem_iff.mp he) with z | z
      · rw [z]; exact ⟨x, tk, rfl, rfl⟩
      · exact g e z
    have hsz : es1.size = es.size + 1 := by rw [← Array.length_toList, pc.length_eq, List.length_cons, Array.length_toList]
    have hb1 : es1.size < scanBound := by rw [hsz]; exact room
    have hled : w.params.followText "set-order" = true ∨ t1.led = true := hl.imp id fun z => by rw [hl1]; exact z
    have fin : ∀ h' es' ep' t', Heap.SameBut a s.heap h' → SetS P w h' a es' ep' t' → es'.toList.Perm es1.toList → Q true { s with heap := h' } := fun h' es' ep' t' sb r p => by
      have hz : es'.size = es.size + 1 := by rw [← hsz, ← Array.length_toList, p.length_eq, Array.length_toList]
      refine hQ true h' es' ep' t' sb r (fun e he => ?_) (by omega) (by omega)
      rcases List.mem_cons.mp (pc.mem_iff.mp (p.mem_iff.mp he)) with z | z
      · rw [z]; exact .inr ⟨tk, rfl⟩
      · exact .inl z
    refine wpAny_bind (hgw _ ?_)
    split
    · refine wpAny_bind ?_
      rw [hashByValue_scannable 8 hsc]
      refine wpAny_pure ?_
      refine addS_end ?_ ho hex hd g1 hb1 ?_ ?_ ?_ ?_
      · intro b s₁ Q' q; cases b <;> first | exact wpAny_pure q | exact wpAny_rule q
      · first | (split <;> first | exact hf1 | exact SetTable.fits_plain_off hf1) | exact hf1
      · first | (split <;> exact hr1) | exact hr1
      · first | (split <;> exact hled) | exact hled
      · intro h' es' ep' t' sb r p; dsimp only; exact wpAny_pure (fin h' es' ep' t' sb r p)
    · refine wpAny_bind (wpAny_pure ?_)
      simp only [↓reduceIte]
      refine addS_end ?_ ho hex hd g1 hb1 hf1 hr1 hled ?_
      · intro b s₁ Q' q; cases b <;> first | exact wpAny_pure q | exact wpAny_rule q
      · intro h' es' ep' t' sb r p; dsimp only; exact wpAny_pure (fin h' es' ep' t' sb r p)
end
/-! ### the rule -/
def rSSS (K : PySem.W.Frag) : V → Hp → VK → Prop := fun x H Q => ∃ (l : Addr) (xs : List Str), x = .ref l ∧ SqL K H l (xs.map V.str) ∧ 0 < xs.length ∧ xs.length < 60 ∧
  ∀ (L : List Str) (p : Addr), H p = none → (∀ y ∈ L, y ∈ xs) → 0 < L.length → L.length ≤ xs.length → Q (.ref p) (upd H p (.lst (L.map V.str)))
theorem str_at : ∀ {xs : List Str} {us : List Value} {i : Nat} {u : Value}, Vals (xs.map V.str) us → us[i]? = some u → ∃ x t, x ∈ xs ∧ u = .str x t
  | [], _, _, _, h, e => by
    cases h
    simp at e
  | x :: xs, _, 0, u, .cons r t, e => by
    obtain ⟨tk, rfl⟩ := r
    simp at e
    exact ⟨x, tk, List.mem_cons_self, e.symm⟩
  | x :: xs, _, i + 1, u, .cons r t, e => by
    obtain ⟨y, tk, hy, ey⟩ := str_at (i := i) t (by simpa using e)
    exact ⟨y, tk, List.mem_cons_of_mem _ hy, ey⟩
theorem each_strs {xs : List Str} : ∀ (us : List Value), (∀ u ∈ us, ∃ x t, x ∈ xs ∧ u = .str x t) → ∃ ys : List Str, (∀ y ∈ ys, y ∈ xs) ∧ PySem.W.EachIs (fun v y => ∃ t, v = Value.str y t) us ys
  | [], _ => ⟨[], fun y h => (by cases h), .nil⟩
  | u :: us, h => by
    obtain ⟨x, t, hx, e⟩ := h u List.mem_cons_self
    obtain ⟨ys, h1, h2⟩ := each_strs us fun v hv => h v (List.mem_cons_of_mem _ hv)
    refine ⟨x :: ys, fun y hy => ?_, .cons ⟨t, e⟩ h2⟩
    rcases List.mem_cons.mp hy with z | z
    · rw [z]; exact hx
    · exact h1 y z
theorem vals_strs' : ∀ {us : List Value} {ys : List Str}, PySem.W.EachIs (fun v y => ∃ t, v = Value.str y t) us ys → Vals (ys.map V.str) us
  | _, _, .nil => .nil
  | _, _, .cons h t => .cons h (vals_strs' t)
theorem ssS {X : Cx} (hc : X.calm = true) (hu : X.A.units + 64 < cLine) : SSR X (rSSS X.K) := by
  intro pins s σ H x v Q I rx h
  obtain ⟨l, xs, rfl, hl, hpos, hf, q⟩ := h
  cases rx
  obtain ⟨its, rv, pl, hz⟩ := I.list hl
  obtain ⟨T, hT⟩ : ∃ T : Nat → Heap → Prop, T = fun i h => (∀ b o, s.heap.get? b = some o → h.get? b = some o) ∧ ∃ es ep t, SetS X.prog X.w h s.heap.objs.size es ep t ∧ (∀ e ∈ es.toList, ∃ x t, x ∈ xs ∧ e.2 = Value.str x t) ∧ es.size ≤ i ∧ (0 < i → 0 < es.size) := ⟨_, rfl⟩
  have isz : its.toArray.size = xs.length := by
    have := rv.length
    rw [List.length_map] at this
    simp [this]
  refine set_of_list (P := X.prog) (w := X.w) T (I.ok.hd hc) pl.isList (fun h' k hS => ?_) (fun i h h' ht k => ?_) (fun i h ht => ?_) (fun A' i v s' Q' hA hv ht hQ => ?_) (fun h' k ht => ?_)
  · rw [hT]
    exact ⟨k, #[], 0, _, ⟨⟨_, hS, ⟨rfl, rfl, rfl⟩, rfl⟩, fun e he => (by simp at he), by unfold scanBound; decide, rfl, List.Pairwise.nil, by show _ ∨ (!X.w.params.followText "set-order") = true; cases X.w.params.followText "set-order" <;> simp⟩,
      fun e he => (by simp at he), Nat.le_refl _, fun z => absurd z (Nat.lt_irrefl _)⟩
  · rw [hT] at ht ⊢
    obtain ⟨k0, es, ep, t, R, sub, hle, hp⟩ := ht
    have lt : ∀ b o, s.heap.get? b = some o → b ≠ s.heap.objs.size + 1 := fun b o e => Nat.ne_of_lt (Nat.lt_succ_of_lt (Heap.lt_size e))
    obtain ⟨o, ho, r⟩ := R.ob
    exact ⟨fun b o e => k b o (lt b o e) (k0 b o e), es, ep, t, ⟨⟨o, k _ _ (Nat.ne_of_lt (Nat.lt_succ_self _)) ho, r⟩, R.good, R.small, R.fits, R.ris, R.led⟩, sub, hle, hp⟩
  · rw [hT] at ht
    exact ht.1
  · rw [hT] at ht
    obtain ⟨k0, es, ep, t, R, sub, hle, hp⟩ := ht
    have hik : i < xs.length := by
      rw [← isz]
      exact (Array.getElem?_eq_some_iff.mp hv).1
    obtain ⟨x, tk, hx, rfl⟩ := str_at rv (by simpa using hv)
    unfold setAdd
    refine wpAny_holding (wpAny_bind ((PySem.strKind X.prog X.w).pyHash (k := x) (strKind_is _ _ _ _) ?_))
    refine addS (s := { s' with toks := s'.toks + 1 }) R (by unfold scanBound; omega) fun b h' es' ep' t' sb R' c hp' hle' => hQ b h' _ sb ?_ (Nat.le_succ _)
    rw [hT]
    refine ⟨fun b o e => (sb.2 b (Nat.ne_of_lt (Heap.lt_size e))).trans (k0 b o e), es', ep', t', R', fun e he => ?_, by omega, fun _ => hp'⟩
    rcases c e he with z | ⟨u, z⟩
    · exact sub e z
    · exact ⟨x, u, hx, z⟩
  · rw [hT] at ht
    obtain ⟨k0, es, ep, t, R, sub, hle, hp⟩ := ht
    obtain ⟨ys, hys, ey⟩ := each_strs (xs := xs) (es.toList.map (·.2)) fun u hu' => by
      obtain ⟨e, he, rfl⟩ := List.mem_map.mp hu'
      exact sub e he
    have hyl : ys.length = es.size := by rw [← ey.length, List.length_map, Array.length_toList]
    refine sorted_of_set (s := { s with heap := h', toks := k }) (enc := fun y : Str => PyData.str y) (Rv := fun v y => ∃ t, v = Value.str y t) (L := ys) (I.ok.hd hc) R.ob R.fits (by omega) R.ris R.led ey (fun h2 k2 v b ⟨t, e⟩ => ?_) (fun L' d hd d' hd' => ?_) (fun L' => .inr fun d hd => ?_)
      (fun b => by show X.A.units + 2 + PyData.depth (.str b) < cLine; simp only [PyData.depth]; omega) fun s' p out c L' k1 g1 o1 hp' hg e pm => ?_
    · rw [e]
      exact .str _ _
    · obtain ⟨a, _, rfl⟩ := List.mem_map.mp hd
      obtain ⟨b, _, rfl⟩ := List.mem_map.mp hd'
      rfl
    · obtain ⟨a, _, rfl⟩ := List.mem_map.mp hd
      exact ⟨(by intro z; cases z), fun xs z => (by cases z)⟩
    · have pm2 := (List.mergeSort_perm L' (PySem.W.dataLe false fun y : Str => PyData.str y)).trans pm
      refine sorted_laid I (fun b o e => k1 b o (k0 b o e)) g1 o1 ?_ hg (vals_strs' e) ?_ fun hn => q _ p hn (fun z hz => hys z (pm2.mem_iff.mp hz)) ?_ ?_
      · obtain ⟨o, ho, _⟩ := R.ob
        have h1 : s.heap.objs.size < h'.objs.size := Heap.lt_size ho
        have h2 : h'.objs.size ≤ p := hp'
        omega
      · rw [List.length_map, pm2.length_eq, sizeLine_eq]
        omega
      · rw [pm2.length_eq, hyl]
        exact hp (by omega)
      · rw [pm2.length_eq]
        omega
end L2.Dk
set_option Elab.async false
set_option linter.all false
set_option maxRecDepth 100000
set_option maxHeartbeats 4000000
/-! enumerate of a tuple; zip of a text and a list. -/
namespace L2.Dk
open PySem PySem.Spec PyProof.Rows
/-! ### enumerate(t) -/
theorem enum_new1 {v : Value} {o : Obj} {H : Heap → Prop} (B : Begins v o H) : Meets (Builtin.«enumerate.__new__» ⟨[.type "enumerate", v], []⟩) (fun _ R s => H s.heap ∧
      R (.ok (.ret (.ref (s.heap.push o).objs.size))) { s with heap := (s.heap.push o).push { cls := .type "enumerate", data := .fields #[.none, .bool false, .ref s.heap.objs.size, rawInt 0, .none, .none] } }) :=
  .of_wp fun prog w A R s h => by
    obtain ⟨hp, g, d, tk, os⟩ := s
    obtain ⟨h1, h⟩ := h
    have hsub := sub_enumerate
    have q1 : ∀ {A' : Around} {E : Value → Shared → Prop} {Q : Value → Shared → Prop}, Q (.ref hp.objs.size) ⟨hp.push o, g, d, tk, os⟩ → wpAny (model prog w) A' (pyIter v) Q E ⟨hp, g, d, tk, os⟩ :=
      fun q => B.iter prog w _ _ ⟨hp, g, d, tk, os⟩ _ h1 q
    wp_walk using q1
    refine wpAny_stack_any fun st => wpAny_pure ?_
    split
    · rename_i c _ _ _ _ _
      cases (c == Value.type "enumerate")
      · wp_walk using q1
        exact ⟨_, rfl, h⟩
      · wp_walk using q1
        exact ⟨_, rfl, h⟩
    · wp_walk using q1
      exact ⟨_, rfl, h⟩
theorem enum_of {prog : Program} {w : World} {A : Around} {E : Value → Shared → Prop} {s : Shared} {v : Value} {o : Obj} {H : Heap → Prop} {Q : Value → Shared → Prop} (B : Begins v o H) (h1 : H s.heap)
    (h : ∀ h', IsEnum h' (s.heap.objs.size + 1) s.heap.objs.size 0 .none → h'.get? s.heap.objs.size = some o → (∀ b o, s.heap.get? b = some o → h'.get? b = some o) → Q (.ref (s.heap.objs.size + 1)) { s with heap := h' }) :
    wpAny (model prog w) A (call (.type "enumerate") [v]) Q E s := by
  refine callType_new F.called_enumerate (by decide) (F.typeCall_enumerate_1 _) (F.newCall_enumerate_1 _) (fun obj => F.args_object_init_2 obj _) F.entry_enumerate_new (enum_new1 B) ⟨h1, ?_⟩
  have hz : (s.heap.push o).objs.size = s.heap.objs.size + 1 := Heap.size_push ..
  show _ ∧ _
  rw [hz]
  have he : IsEnum ((s.heap.push o).push { cls := .type "enumerate", data := .fields #[.none, .bool false, .ref s.heap.objs.size, rawInt 0, .none, .none] }) (s.heap.objs.size + 1) s.heap.objs.size 0 .none := by
    have q := Heap.get?_push_size (s.heap.push o) (o := { cls := .type "enumerate", data := .fields #[.none, .bool false, .ref s.heap.objs.size, rawInt 0, .none, .none] }) rfl
    rw [hz] at q
    exact q
  exact ⟨⟨_, he, rfl⟩, h _ he (Heap.get?_push_of_some _ (Heap.get?_push_size _ B.free)) fun b o x => Heap.get?_push_of_some _ (Heap.get?_push_of_some _ x)⟩
/-- the tuple at a, each item in a new pair with its place -/
def Itu (K : PySem.W.Frag) (a : Addr) : It :=
  ⟨fun i H => ∃ (xs : List V) (x : V), SqT K H a xs ∧ xs[i]? = some x, fun i H v H' => ∃ T x, v = .ref T ∧ H T = none ∧ H' = upd H T (.tup [.int (i : Nat), x]) ∧ ∀ xs, SqT K H a xs → xs[i]? = some x,
    fun i H => ∃ xs : List V, SqT K H a xs ∧ i = xs.length⟩
theorem turn_enumT {P : Program} {w : World} {K : PySem.W.Frag} {elts : List Expr} {kk : Nat} {tpos : Pos} (a e it : Addr) (hea : e ≠ a) (hia : a ≠ it) :
    Turn P w K (.Tuple elts kk tpos) (Itu K a) [e, it] e (fun i h => (∃ old, IsEnum h e it ((i : Nat) : Int) old) ∧ h.IsTupleIter it a i ∧ e ≠ it) where
  mem := by simp
  obj := fun i h st b hb => by
    obtain ⟨⟨old, he⟩, ⟨o, ho, hc, hd⟩, _⟩ := st
    rcases (show b = e ∨ b = it by simpa using hb) with z | z
    · rw [z]; exact ⟨_, he, fun v q => nomatch q⟩
    · rw [z]; exact ⟨o, ho, fun v q => by rw [hd] at q; cases q⟩
  keep := fun i h h' st k => let ⟨⟨old, he⟩, hi, hne⟩ := st; ⟨⟨old, k e (by simp) _ he⟩, hi.at fun o q => k it (by simp) o q, hne⟩
  item := by
    intro X hP hw hK hc i pins s σ H E I hf st hg
    subst hP hw hK
    obtain ⟨⟨old, he⟩, hit, hne⟩ := st
    obtain ⟨xs, x, hq, hx⟩ := hg
    obtain ⟨its, rv, p, hz⟩ := I.tuple hq
    obtain ⟨u, hu, ru⟩ := rv.get hx
    have hel : e < s.heap.objs.size := Heap.lt_size he
    have hil : it < s.heap.objs.size := by obtain ⟨_, q, _⟩ := hit; exact Heap.lt_size q
    have hlt : i < its.toArray.size := by
      rw [List.size_toArray]
      exact (List.getElem?_eq_some_iff.mp hu).1
    refine wpAny_pyNext_enum_itemC (Draws.tuple (A := X.A.in1) (by show X.A.handled = none; exact I.ok.hd hc) it a hia its.toArray) he ⟨hit, show s.heap.IsTuple a its.toArray from p⟩ hlt hne (by simp [hne, hea]) fun y h' tk hy ho hit' hT hsz hk => ?_
    have ey : y = u := by
      have q : its.toArray[i]? = some y := hy
      rw [List.getElem?_toArray, hu] at q
      exact (Option.some.inj q).symm
    subst ey
    refine ⟨_, rfl, wpAny_letOwnedTupleGo_enum (s := { s with heap := h', toks := tk + 1 }) ho fun h'' he' sb => ?_⟩
    have hT2 : h''.get? s.heap.objs.size = some { cls := .type "tuple", data := .seq #[.int i tk, y] } := (sb.2 _ (Nat.ne_of_gt hel)).trans hT
    have new : ObjOk X.prog X.w (upd H s.heap.objs.size (.tup [.int (i : Nat), x])) h'' s.heap.objs.size (.tup [.int (i : Nat), x]) :=
      ⟨by show 2 ≤ sizeLine; decide, [.int i tk, y], .cons ⟨_, rfl⟩ (.cons ru .nil), ⟨_, hT2, rfl, _, rfl⟩⟩
    have I1 : Inv X pins σ (upd H s.heap.objs.size (.tup [.int (i : Nat), x])) { s with heap := h'', toks := tk + 1 } :=
      I.turnedNew (ch := [e, it]) (fun b ob hb q => (sb.2 b (fun z => hb (by simp [z]))).trans (hk b ob (fun z => hb (by simp [z])) (fun z => hb (by simp [z])) q)) hf (Nat.le_refl _) new
    refine ⟨.ref s.heap.objs.size, _, I1, rfl, ⟨_, x, rfl, I.hok.fresh (Nat.le_refl _), rfl, fun ys hy => by rw [I.tuple_inj hy hq]; exact hx⟩, ⟨⟨y, ?_⟩, hit'.1.at fun o q => (sb.2 it (Ne.symm hne)).trans q, hne⟩, fun b hb => ?_⟩
    · have e1 : ((i + 1 : Nat) : Int) = (i : Int) + 1 := by omega
      rw [e1]; exact he'
    · have hb' : b < s.heap.objs.size := by
        rcases (show b = e ∨ b = it by simpa using hb) with z | z
        · rw [z]; exact hel
        · rw [z]; exact hil
      rw [upd_ne (Nat.ne_of_lt hb')]
      exact (hf b hb).1
  done := by
    intro X hP hw hK hc i pins s σ H E I hf st hg
    subst hP hw hK
    obtain ⟨⟨old, he⟩, hit, hne⟩ := st
    obtain ⟨xs, hq, hx⟩ := hg
    obtain ⟨its, rv, p, hz⟩ := I.tuple hq
    obtain ⟨f0, f1, f2, f3, f4, f5⟩ := hf it (by simp)
    have hl : i = its.toArray.size := by
      rw [hx, rv.length]
      simp
    subst hl
    exact wpAny_pyNext_enum_endD (Draws.tuple (A := X.A.in1) (by show X.A.handled = none; exact I.ok.hd hc) it a hia its.toArray) he ⟨hit, show s.heap.IsTuple a its.toArray from p⟩ fun h' eb => ⟨rfl, I.turned (t' := s.toks) (fun b o hb q => eb b o hb q) f0 f1 f3 f4 f5⟩
  self := fun A i s Q E st h => let ⟨⟨_, he⟩, _⟩ := st; wpAny_pyIter_enum he h
def iEnumT (K : PySem.W.Frag) (ta : TA) : TI := fun σ H R => ta σ H fun vs H1 => ∃ a xs, vs = [.ref a] ∧ SqT K H1 a xs ∧ R (Itu K a) H1
theorem pi_enumT {X : Cx} {e : Expr} {ta : TA} {p pos tpos : Pos} {elts : List Expr} {kk : Nat} (hg : Gl X "enumerate") (hm : X.mg "enumerate" = none) (ha : PA X [e] ta) (hs : starEach [e] X.env = [(false, eval e X.env)] := by rfl) :
    PI X (.Tuple elts kk tpos) (.Call (.Name "enumerate" p) [e] [] pos) (iEnumT X.K ta) := by
  refine ⟨fun pins s σ H R I h => ?_⟩
  refine Call_ (ld_blt I hg hm boot_enumerate (PyProof.Rows.callWith_type1 (thn (ha.run pos pins s σ H _ I h) fun us s1 ⟨vs, H1, I1, r1, q1⟩ => ?_) hs rfl))
  obtain ⟨a, xs, ex, hq, q⟩ := q1
  subst ex
  cases r1 with
  | cons r rr =>
    cases rr
    cases r
    obtain ⟨its, rv, p', hz⟩ := I1.tuple hq
    have hal : a < s1.heap.objs.size := by
      obtain ⟨o, ho, _⟩ := id p'
      exact Heap.lt_size ho
    refine enum_of (begins_tuple a its.toArray) (show s1.heap.IsTuple a its.toArray from p') fun h' he hit hk => wpAny_pyIter_enum he ?_
    have I2 : Inv X pins σ H1 { s1 with heap := h' } := I1.kept (t' := s1.toks) hk
    refine ⟨s1.heap.objs.size + 1, [s1.heap.objs.size + 1, s1.heap.objs.size], _, _, H1, rfl, I2, turn_enumT a (s1.heap.objs.size + 1) s1.heap.objs.size (Nat.ne_of_gt (Nat.lt_succ_of_lt hal)) (Nat.ne_of_lt hal), ⟨⟨.none, he⟩, ⟨_, hit, rfl, rfl⟩, Nat.succ_ne_self _⟩, fun b hb => ?_, q⟩
    have hle : s1.heap.objs.size ≤ b := by
      rcases (show b = s1.heap.objs.size + 1 ∨ b = s1.heap.objs.size by simpa using hb) with z | z
      · rw [z]; exact Nat.le_add_right _ _
      · rw [z]; exact Nat.le_refl _
    exact I1.fpOk hle (I1.hok.fresh hle)
theorem walk_enumT {K : PySem.W.Frag} {a : Addr} {xs : List V} : Walk (Itu K a) xs.length (fun H => SqT K H a xs) (YPair (fun i => some (.int (i : Nat))) fun i => xs[i]?) := by
  refine ⟨fun i H hi h => ⟨xs, xs[i], h, by simp [hi]⟩, fun H h => ⟨xs, h, rfl⟩, fun i H v H' hi h y => ?_⟩
  obtain ⟨T, x, e, hT, eH, hx⟩ := y
  exact ⟨T, _, x, e, hT, eH, rfl, hx xs h⟩

/-! ### zip(s, xs), s a text -/
def Itzs (K : PySem.W.Frag) (x : Str) (b : Addr) : It :=
  ⟨fun i H => ∃ (ys : List V) (c : Nat) (y : V), SqL K H b ys ∧ x.cps[i]? = some c ∧ ys[i]? = some y,
    fun i H v H' => ∃ T c y, v = .ref T ∧ H T = none ∧ H' = upd H T (.tup [.str ⟨#[c]⟩, y]) ∧ x.cps[i]? = some c ∧ ∀ ys, SqL K H b ys → ys[i]? = some y,
    fun i H => ∃ ys : List V, SqL K H b ys ∧ i ≤ x.cps.size ∧ i ≤ ys.length ∧ (i = x.cps.size ∨ i = ys.length)⟩
theorem turn_zipS {P : Program} {w : World} {K : PySem.W.Frag} {elts : List Expr} {kk : Nat} {tpos : Pos} {x : Str} {tx : Tok} {b z TI TO i1 i2 : Addr} (D : ZipSep2 z TI TO i1 i2 [i1] [i2, b]) (hb2 : b ≠ i2) :
    Turn P w K (.Tuple elts kk tpos) (Itzs K x b) [z, TI, TO, i1, i2] z (fun i h => IsZip h z TI TO .none ∧ IsTupOf2 h TI (.ref i1) (.ref i2) ∧ (∃ x y, IsTupOf2 h TO x y) ∧ h.IsStrIter i1 (strIterType x) x tx i ∧ h.IsListIter i2 b i) where
  mem := by simp
  obj := fun i h st c hc => by
    obtain ⟨hz, hTI, ⟨x0, y0, hTO⟩, ⟨o1, e1, _, d1⟩, ⟨o2, e2, _, d2⟩⟩ := st
    rcases (show c = z ∨ c = TI ∨ c = TO ∨ c = i1 ∨ c = i2 by simpa using hc) with q | q | q | q | q
    · rw [q]; exact ⟨_, hz, fun v q => nomatch q⟩
    · rw [q]; exact ⟨_, hTI, fun v q => nomatch q⟩
    · rw [q]; exact ⟨_, hTO, fun v q => nomatch q⟩
    · rw [q]; exact ⟨o1, e1, fun v q => by rw [d1] at q; cases q⟩
    · rw [q]; exact ⟨o2, e2, fun v q => by rw [d2] at q; cases q⟩
  keep := fun i h h' st k => by
    obtain ⟨hz, hTI, ⟨x0, y0, hTO⟩, ⟨o1, e1, r1⟩, h2⟩ := st
    exact ⟨k z (by simp) _ hz, k TI (by simp) _ hTI, ⟨x0, y0, k TO (by simp) _ hTO⟩, ⟨o1, k i1 (by simp) _ e1, r1⟩, h2.at fun o q => k i2 (by simp) o q⟩
  item := by
    intro X hP hw hK hc i pins s σ H E I hf st hg
    subst hP hw hK
    obtain ⟨hz, hTI, ⟨x0, y0, hTO⟩, h1, h2⟩ := st
    obtain ⟨ys, c, y, hq, hx, hy⟩ := hg
    obtain ⟨its, rv, p, _⟩ := I.list hq
    obtain ⟨u2, hu2, ru2⟩ := rv.get hy
    have hzl : z < s.heap.objs.size := Heap.lt_size hz
    have hh : X.A.in1.handled = none := by show X.A.handled = none; exact I.ok.hd hc
    have l1 : i < x.cps.size := (Array.getElem?_eq_some_iff.mp hx).1
    have l2 : i < its.toArray.size := by rw [List.size_toArray]; exact (List.getElem?_eq_some_iff.mp hu2).1
    refine wpAny_pyNext_zipD2_item D (Draws.text hh i1 x tx) (Draws.list hh i2 b hb2 its.toArray) hz hTI hTO h1 ⟨h2, p.isList⟩ l1 l2 fun x1 x2 h' tk e1 e2 z' TO' h1' h2' hT hsz hk => ?_
    obtain ⟨c', u, hc', rfl⟩ := e1
    have ec : c' = c := by
      rw [hx] at hc'
      exact (Option.some.inj hc').symm
    subst ec
    have ex2 : x2 = u2 := by
      have q : its.toArray[i]? = some x2 := e2
      rw [List.getElem?_toArray, hu2] at q
      exact (Option.some.inj q).symm
    subst ex2
    refine ⟨_, rfl, wpAny_letOwnedTupleGo_zip (s := { s with heap := h', toks := tk }) z' fun h'' z'' sb => ?_⟩
    have hT2 : h''.get? s.heap.objs.size = some { cls := .type "tuple", data := .seq #[.str ⟨#[c']⟩ u, x2] } := (sb.2 _ (Nat.ne_of_gt hzl)).trans hT
    have new : ObjOk X.prog X.w (upd H s.heap.objs.size (.tup [.str ⟨#[c']⟩, y])) h'' s.heap.objs.size (.tup [.str ⟨#[c']⟩, y]) :=
      ⟨by show 2 ≤ sizeLine; decide, [.str ⟨#[c']⟩ u, x2], .cons ⟨_, rfl⟩ (.cons ru2 .nil), ⟨_, hT2, rfl, _, rfl⟩⟩
    have I1 : Inv X pins σ (upd H s.heap.objs.size (.tup [.str ⟨#[c']⟩, y])) { s with heap := h'', toks := tk } :=
      I.turnedNew (t' := tk) (ch := [z, TI, TO, i1, i2]) (fun c o hb q => (sb.2 c (fun q' => hb (by simp [q']))).trans (hk c o (fun q' => hb (by simp [q'])) (fun q' => hb (by simp [q'])) (fun q' => hb (by simp [q'])) (fun q' => hb (by simp [q'])) q)) hf (Nat.le_refl _) new
    refine ⟨.ref s.heap.objs.size, _, I1, rfl, ⟨_, c', y, rfl, I.hok.fresh (Nat.le_refl _), rfl, hx, fun l hl => by rw [I.list_inj hl hq]; exact hy⟩, ⟨z'', ?_, ⟨.str ⟨#[c']⟩ u, x2, ?_⟩, ?_, ?_⟩, fun c hcm => ?_⟩
    · exact (sb.2 _ D.TIz).trans (hk _ _ D.TIz D.TITO D.TIi1 D.TIi2 hTI)
    · exact (sb.2 _ D.TOz).trans TO'
    · obtain ⟨o, ho, r⟩ := h1'
      exact ⟨o, (sb.2 _ (Ne.symm D.zi1)).trans ho, r⟩
    · exact h2'.1.at fun o q => (sb.2 _ (Ne.symm D.zi2)).trans q
    · have hlt : c < s.heap.objs.size := by
        rcases (show c = z ∨ c = TI ∨ c = TO ∨ c = i1 ∨ c = i2 by simpa using hcm) with q | q | q | q | q
        · rw [q]; exact hzl
        · rw [q]; exact Heap.lt_size hTI
        · rw [q]; exact Heap.lt_size hTO
        · rw [q]; obtain ⟨_, e1, _⟩ := h1; exact Heap.lt_size e1
        · rw [q]; obtain ⟨_, e2, _⟩ := h2; exact Heap.lt_size e2
      rw [upd_ne (Nat.ne_of_lt hlt)]
      exact (hf c hcm).1
  done := by
    intro X hP hw hK hc i pins s σ H E I hf st hg
    subst hP hw hK
    obtain ⟨hz, hTI, ⟨x0, y0, hTO⟩, h1, h2⟩ := st
    obtain ⟨ys, hq, l1, l2, hend⟩ := hg
    obtain ⟨its, rv, p, _⟩ := I.list hq
    have el : its.toArray.size = ys.length := by rw [List.size_toArray, rv.length]
    have hh : X.A.in1.handled = none := by show X.A.handled = none; exact I.ok.hd hc
    exact wpAny_pyNext_zipD2_end D (Draws.text hh i1 x tx) (Draws.list hh i2 b hb2 its.toArray) hz hTI hTO h1 ⟨h2, p.isList⟩ l1 (by omega) (by omega) fun h' tk hk => ⟨rfl, I.turnedL (t' := tk) (ch := [z, TI, TO, i1, i2]) (fun c o hb q =>
      hk c o (fun q' => hb (by simp [q'])) (fun q' => hb (by simp [q'])) (fun q' => hb (by simp [q'])) (fun q' => hb (by simp [q'])) q) hf⟩
  self := fun A i s Q E st h => wpAny_pyIter_zip st.1 h
def iZipS (K : PySem.W.Frag) (ta : TA) : TI := fun σ H R => ta σ H fun vs H1 => ∃ x b ys, vs = [.str x, .ref b] ∧ SqL K H1 b ys ∧ R (Itzs K x b) H1
theorem pi_zipS {X : Cx} {e e2 : Expr} {ta : TA} {p pos tpos : Pos} {elts : List Expr} {kk : Nat} (hg : Gl X "zip") (hm : X.mg "zip" = none) (ha : PA X [e, e2] ta)
    (hs : starEach [e, e2] X.env = (false, eval e X.env) :: starEach [e2] X.env := by rfl) (hpl : (backTo pos (starEach [e2] X.env)).any (·.1) = false := by rfl) :
    PI X (.Tuple elts kk tpos) (.Call (.Name "zip" p) [e, e2] [] pos) (iZipS X.K ta) := by
  refine ⟨fun pins s σ H R I h => ?_⟩
  refine Call_ (ld_blt I hg hm PyProof.Rows.boot_zip (PyProof.Rows.callWith_type1 (thn (ha.run pos pins s σ H _ I h) fun us s1 ⟨vs, H1, I1, r1, q1⟩ => ?_) hs hpl))
  obtain ⟨x, b, ys, ex, hq, q⟩ := q1
  subst ex
  cases r1 with
  | cons r rr =>
    cases rr with
    | cons r' rr =>
      cases rr
      obtain ⟨t, rfl⟩ := r
      cases r'
      obtain ⟨its, rv, p', _⟩ := I1.list hq
      refine zip_begins2 (begins_text x t) (begins_list b its.toArray) trivial p'.isList fun h' hz hTI hTO h1 h2 hsz hk => wpAny_pyIter_zip hz ?_
      have I2 : Inv X pins σ H1 { s1 with heap := h' } := I1.kept (t' := s1.toks) hk
      have hbl : b < s1.heap.objs.size := p'.lt
      refine ⟨s1.heap.objs.size + 4, [s1.heap.objs.size + 4, s1.heap.objs.size + 2, s1.heap.objs.size + 3, s1.heap.objs.size, s1.heap.objs.size + 1], _, _, H1, rfl, I2, turn_zipS (tx := t) (zip_sep2 (N := s1.heap.objs.size) (fp1 := []) (fp2 := [b]) (by simp) (by simpa using hbl)) (Nat.ne_of_lt (Nat.lt_succ_of_lt hbl)),
        ⟨hz, hTI, ⟨_, _, hTO⟩, ⟨_, h1, rfl, rfl⟩, ⟨_, h2, rfl, rfl⟩⟩, fun c hcm => ?_, q⟩
      have hle : s1.heap.objs.size ≤ c := by
        rcases (show c = s1.heap.objs.size + 4 ∨ c = s1.heap.objs.size + 2 ∨ c = s1.heap.objs.size + 3 ∨ c = s1.heap.objs.size ∨ c = s1.heap.objs.size + 1 by simpa using hcm) with z | z | z | z | z
        · rw [z]; exact Nat.le_add_right _ _
        · rw [z]; exact Nat.le_add_right _ _
        · rw [z]; exact Nat.le_add_right _ _
        · rw [z]; exact Nat.le_refl _
        · rw [z]; exact Nat.le_add_right _ _
      exact I1.fpOk hle (I1.hok.fresh hle)
theorem walk_zipS {K : PySem.W.Frag} {x : Str} {b : Addr} {ys : List V} : Walk (Itzs K x b) (min x.cps.size ys.length) (fun H => SqL K H b ys) (YPair (fun i => (x.cps[i]?).map fun c => V.str ⟨#[c]⟩) fun i => ys[i]?) := by
  refine ⟨fun i H hi h => ⟨ys, x.cps[i]'(by omega), ys[i]'(by omega), h, by simp, by simp⟩, fun H h => ⟨ys, h, by omega, by omega, by omega⟩, fun i H v H' hi h y => ?_⟩
  obtain ⟨T, c, y', e, hT, eH, hc, hy⟩ := y
  exact ⟨T, _, y', e, hT, eH, by show Option.map _ (x.cps[i]?) = _; rw [hc]; rfl, hy ys h⟩
end L2.Dk
set_option Elab.async false
set_option linter.all false
set_option maxRecDepth 100000
set_option maxHeartbeats 4000000
/-! try with several clauses, some of them with a name. -/
namespace L2.Dk
open PySem PySem.Spec PyProof.Rows
/-- a clause: its class, the slot of its name, its suite's reading -/
abbrev Cla := Value × Option Nat × (Addr → Value → Option Addr → TS)
/-- behind a suite the name's slot is empty -/
def endsAt (D : Ends) (i : Nat) : Ends := { nx := fun σ' H' => D.nx (σ'.set i none) H', rt := D.rt, bk := fun σ' H' => D.bk (σ'.set i none) H', ct := fun σ' H' => D.ct (σ'.set i none) H' }
def suiteAt (ts : Addr → Value → Option Addr → TS) (a : Addr) (cls : Value) (d : Option Addr) (D : Ends) (σ : St) (H : Hp) : Option Nat → Prop
  | none => ts a cls d D σ H
  | some i => ts a cls d (endsAt D i) (σ.set i (some (.ref a))) H
def wMix (K : PySem.W.Frag) (Wout : WX) (D : Ends) : List Cla → WX
  | [] => Wout
  | (c, n, ts) :: r => fun cls d σ H => ∃ b, PySem.W.exmOne K cls c = some b ∧ (b = true → ∀ a, H a = none → suiteAt ts a cls d D σ H n) ∧ (b = false → wMix K Wout D r cls d σ H)
/-- the names of a clause's suite -/
def ClaName (X : Cx) : Option Str → Option Nat → Prop
  | none, none => True
  | some n, some i => X.N[i]? = some n ∧ X.env.kindOf n = some .local
  | _, _ => False
inductive ClasOk (X : Cx) : List ExceptHandler → List Cla → Prop
  | nil : ClasOk X [] []
  | cons {x : Str} {c : Value} {nm : Option Str} {ix : Option Nat} {ts : Addr → Value → Option Addr → TS} {b₀ : Stmt} {suite : List Stmt} {np pos' : Pos} {hds : List ExceptHandler} {l : List Cla} (hc : Names X x c) (hn : ClaName X nm ix)
      (hsu : ∀ (a : Addr) (oe : Obj) (cls : Value) (d : Option Addr) (pn : List (Addr × Obj)), Zc cls d oe → (∃ vs, oe.data = .fields vs) → PSs (X.suite a ((a, oe) :: pn)) (b₀ :: suite) (ts a cls d)) (r : ClasOk X hds l) :
      ClasOk X (.ExceptHandler (some (.Name x np)) nm (b₀ :: suite) pos' :: hds) ((c, ix, ts) :: l)
section
variable {X : Cx} {body : List Stmt} {h₀ : ExceptHandler} {hds : List ExceptHandler} {l : List Cla} {pos : Pos} {tb : WX → TS} {Wout : WX}
theorem ps_try_mix (hs : X.stack = X.env :: X.outer) (hf : X.env.frame = some X.env.locals) (hN : X.N.Nodup) (tk : Takes X Wout)
    (hb : ∀ (W : WX) (pn : List (Addr × Obj)) (xe : Value → Shared → Prop), Takes (X.tr pn xe) W → PassesOwn (model X.prog X.w) X.A X.env xe → PSs (X.tr pn xe) body (tb W))
    (hh : ClasOk X (h₀ :: hds) l) : PS X (.Try body (h₀ :: hds) [] [] pos) (fun D σ H => tb (wMix X.K Wout D l) D σ H) := by
  refine ⟨fun pins s σ H D I h => ?_⟩
  have ok := I.ok
  have hfr : X.A.frames = some (X.env :: X.outer) := by rw [ok.frames, hs]
  refine wpAny_Try_except ?_
  refine wpAny_mono ((hb (wMix X.K Wout D l) (X.pn ++ pins) (fun e s₁ => wpAny (model X.prog X.w) X.A (noteFrame e X.env) (fun _ s₂ => wpAny (model X.prog X.w) X.A (setFlight e none) (fun _ s₃ =>
    wpAny (model X.prog X.w) X.A (handleBy e X.env (h₀ :: hds)) (SP X pins D) X.xe s₃) X.xe s₂) X.xe s₁) (fun u s' xx => ?_) PassesOwn.looking).run [] s σ H D (I.toTry _) h) (fun f s1 hsp => ?_) (fun e s1 he => he)
  · obtain ⟨a, B, sI, pins', σ', H', cls, d, rfl, J', nb, up, sky, na, os, ag, w⟩ := xx
    have J : Inv X pins σ' H' sI := J'.ofTry ok
    have sky' : Sky B (X.env :: X.outer) a (Zc cls d) X.env.locals s'.heap := by rw [← hs]; exact sky
    show wpAny (model X.prog X.w) X.A (noteFrame (.ref a) X.env) _ _ _
    refine Sky.land Zc.steady hfr hf sky' fun h3 fl3 up3 => ?_
    have J3 : Inv X pins σ' H' { s' with heap := h3 } := J.landed nb fl3.1 (up.trans up3) os ag
    obtain ⟨oe3, vs3, he3, hz3, hd3⟩ := fl3.there
    have nfr : a ∉ frs (X.env :: X.outer) := fun hm => by
      obtain ⟨_, o', e', hnf⟩ := fl3.2.2.1.mem hm
      rw [he3] at e'; cases e'
      exact hnf _ hd3
    have nL : a ≠ X.env.locals := fun z => nfr (List.mem_filterMap.mpr ⟨X.env, List.mem_cons_self, by rw [hf, z]⟩)
    have nF : a ∉ X.fs := fun hm => by
      obtain ⟨e, he, q⟩ := List.mem_filterMap.mp hm
      exact nfr (List.mem_filterMap.mpr ⟨e, List.mem_cons_of_mem _ he, q⟩)
    have S3 := J3.suite he3 hd3 na nL nF
    have go : ∀ {hds' : List ExceptHandler} {l' : List Cla}, ClasOk X hds' l' → wMix X.K Wout D l' cls d σ' H' → wpAny (model X.prog X.w) X.A (handleBy (.ref a) X.env hds') (SP X pins D) X.xe { s' with heap := h3 } := by
      intro hds' l' hk
      induction hk with
      | nil =>
        intro w
        refine wpAny_handleBy_nil ?_
        obtain ⟨k1, k2, k3, oe, vs, T, oT, ts', he, hz, hd, h1, hr⟩ := id fl3
        unfold PySem.passOn
        refine wpAny_bind (wpAny_field he hd h1 ?_)
        rw [if_neg (show ¬ ((Value.ref T == Value.none) = true) from by simp)]
        have fin : wpAny (model X.prog X.w) X.A (setFlight (.ref a) X.env.frame) (fun _ s4 => wpAny (model X.prog X.w) X.A (throw (.ref a) : Sem Flow) (SP X pins D) X.xe s4) X.xe { s' with heap := h3 } := by
          rw [hf]
          refine HandSPX.setFlight_upZ fl3 fun h4 hh4 up4 => wpAny_throw (tk _ _ ?_)
          exact ⟨a, B, sI, pins, σ', H', cls, d, rfl, J, nb, (up.trans up3).trans up4, .inr (.inr (by rw [hs]; exact hh4)), na, os, ag, w⟩
        first
          | exact wpAny_bind (wpAny_pure (wpAny_bind fin))
          | exact wpAny_bind fin
      | @cons x c nm ix ts b₀ suite np pos' hds2 l2 hc hn hsu r ih =>
        intro w
        obtain ⟨b, hb1, hyes, hno⟩ := w
        refine wpAny_handleBy_cons (codeAny_handlers_test ?_) (by intro q; cases q)
        have LT : PySem.W.Looks (model X.prog X.w) h3 (typeOf (.ref a)) cls := fun A Q E s k q => wpAny_typeOf_ref (k _ _ he3) (by rw [hz3.1]; exact q)
        have LM := PySem.W.exm_one (M := model X.prog X.w) (J3.kIn) LT hb1
        have test : ∀ {Q : Value → Shared → Prop} {E : Value → Shared → Prop}, Q c { s' with heap := h3 } → wpAny (model X.prog X.w) (X.A.mark (some (.ref a))) (eval (.Name x np) X.env) Q E { s' with heap := h3 } := fun {Q E} q => by
          obtain ⟨hg, hdbg, hm | ⟨hm, hv, hnn⟩⟩ := hc
          · exact ld_glob (X := X.suite a ((a, oe3) :: (X.pn ++ pins))) S3 hg hm q hdbg
          · exact ld_blt (X := X.suite a ((a, oe3) :: (X.pn ++ pins))) S3 hg hm hv q hnn hdbg
        refine test (LM.here ?_)
        cases b with
        | false =>
          show wpAny _ X.A (handleBy (.ref a) X.env hds2) _ _ _
          exact ih (hno rfl)
        | true =>
          have hy := hyes rfl a na
          cases nm with
          | none =>
            cases ix with
            | some i => exact hn.elim
            | none =>
              refine codeAny_handlers_suite ?_
              refine HandSPX.lands_againZ fl3 fun h4 fl4 up4 => ?_
              have J4 : Inv X pins σ' H' { s' with heap := h4 } := J.landed nb fl4.1 ((up.trans up3).trans up4) os ag
              obtain ⟨oe4, vs4, he4, hz4, hd4⟩ := fl4.there
              have S4 := J4.suite he4 hd4 na nL nF
              refine wpAny_mono ((hsu a oe4 cls d (X.pn ++ pins) hz4 ⟨_, hd4⟩).run [] _ _ H' _ S4 hy) (fun f s6 hsp => ?_) (fun _ _ z => False.elim z)
              cases f with
              | next =>
                obtain ⟨σ6, H6, S6, q6⟩ := hsp
                exact ⟨_, _, S6.unsuite ok, q6⟩
              | brk =>
                obtain ⟨σ6, H6, S6, q6⟩ := hsp
                exact ⟨_, _, S6.unsuite ok, q6⟩
              | cont =>
                obtain ⟨σ6, H6, S6, q6⟩ := hsp
                exact ⟨_, _, S6.unsuite ok, q6⟩
              | ret u =>
                obtain ⟨v6, σ6, H6, S6, r6, q6⟩ := hsp
                exact ⟨_, _, _, S6.unsuite ok, r6, q6⟩
          | some n =>
            cases ix with
            | none => exact hn.elim
            | some i =>
              obtain ⟨hi, hln⟩ := hn
              have hloc : Loc X.env.scope n := .inl hln
              refine codeAny_handlers_suite_as ?_
              refine HandSPX.lands_againZ fl3 fun h4 fl4 up4 => ?_
              have J4 : Inv X pins σ' H' { s' with heap := h4 } := J.landed nb fl4.1 ((up.trans up3).trans up4) os ag
              obtain ⟨oe4, vs4, he4, hz4, hd4⟩ := fl4.there
              have S4 := J4.suite he4 hd4 na nL nF
              refine store_ok (X := X.suite a ((a, oe4) :: (X.pn ++ pins))) (v := .ref a) S4 hN hi hloc rfl (fun s5 S5 => ?_) (.inr hln)
              refine wpAny_mono ((hsu a oe4 cls d (X.pn ++ pins) hz4 ⟨_, hd4⟩).run [] s5 _ H' _ S5 hy) (fun f s6 hsp => ?_) (fun _ _ z => False.elim z)
              have gone : ∀ {σ6 : St} {H6 : Hp} {Q : Shared → Prop}, Inv (X.suite a ((a, oe4) :: (X.pn ++ pins))) [] σ6 H6 s6 → (∀ s7, Inv X pins (σ6.set i none) H6 s7 → Q s7) →
                  wpAny (model X.prog X.w) X.A (do bindName X.env n .none; unbindBehindTheSuite X.env n pos') (fun _ s7 => Q s7) X.xe s6 := fun {σ6 H6 Q} S6 hq => gone_ok (S6.unsuite ok) hN hi hln hq
              cases f with
              | next =>
                obtain ⟨σ6, H6, S6, q6⟩ := hsp
                exact gone S6 fun s7 J7 => ⟨_, _, J7, q6⟩
              | brk =>
                obtain ⟨σ6, H6, S6, q6⟩ := hsp
                exact gone S6 fun s7 J7 => ⟨_, _, J7, q6⟩
              | cont =>
                obtain ⟨σ6, H6, S6, q6⟩ := hsp
                exact gone S6 fun s7 J7 => ⟨_, _, J7, q6⟩
              | ret u =>
                obtain ⟨v6, σ6, H6, S6, r6, q6⟩ := hsp
                exact gone S6 fun s7 J7 => ⟨_, _, _, J7, r6, q6⟩
    exact go hh w
  · cases f with
    | next =>
      obtain ⟨σ', H', J', q⟩ := hsp
      exact wpAny_execs_nil ⟨σ', H', J'.ofTry ok, q⟩
    | brk =>
      obtain ⟨σ', H', J', q⟩ := hsp
      exact ⟨σ', H', J'.ofTry ok, q⟩
    | cont =>
      obtain ⟨σ', H', J', q⟩ := hsp
      exact ⟨σ', H', J'.ofTry ok, q⟩
    | ret u =>
      obtain ⟨v, σ', H', J', r, q⟩ := hsp
      exact ⟨v, σ', H', J'.ofTry ok, r, q⟩
end
end L2.Dk
set_option Elab.async false
set_option linter.all false
set_option maxRecDepth 100000
set_option maxHeartbeats 4000000
/-! d.copy(); get of a written dict; xs[i].replace of written texts. -/
namespace L2.Dk
open PySem PySem.Spec PyProof.Rows
section
variable {X : Cx} {o e : Expr} {apos cpos : Pos} {td ty : TE}
/-- d.copy(), d a dict with int and text keys -/
def tDCopy (td : TE) : TE := fun σ H Q => td σ H fun x H1 => ∃ a kvs, x = .ref a ∧ L2.Rd H1 a (.dK kvs) ∧ ∀ p, H1 p = none → Q (.ref p) (upd H1 p (.dK kvs))
theorem pe_dcopy (ho : PE X o td) (hbase : attributeBase o "copy" X.env (eval o X.env) = eval o X.env := by rfl) (hline : (apos.endLine == cpos.line) = true := by rfl) : PE X (.Call (.Attribute o "copy" apos) [] [] cpos) (tDCopy td) := by
  refine ⟨fun pins s σ H Q I h => ?_⟩
  refine wpAny_Call_method0_late hbase hline (thn (ho.run pins s σ H _ I h) fun u s1 ⟨x, H1, I1, rx, a, kvs, ex, g, q⟩ => ?_)
  subst ex
  obtain rfl : u = Value.ref a := rx
  obtain ⟨z, hd, vs, rel, dd⟩ := dk_rd I1.hok g
  obtain ⟨t1, t2, _⟩ := isD_at I1 (.inl ⟨kvs, g⟩)
  refine ⟨"dict", "dict.copy", PySem.F.plainAttrs_dict, PySem.F.slot_dict_copy, PySem.F.type_dict_copy, t1, t2, Calls.callWith_builtin rfl (PySem.evalArgs_none ?_)⟩
  refine call_meetsIn PySem.F.slot_dict_copy dd.typeIs PySem.F.entry_dict_copy (PySem.F.args_dict_copy_1 _) (meets_dict_copy (mixKind X.prog X.w) a hd) ⟨vs, dd, by rw [← rel.length]; exact z, fun h' d1 d2 k => ?_⟩
  have hn : H1 s1.heap.objs.size = none := I1.hok.fresh (Nat.le_refl _)
  exact ⟨.ref s1.heap.objs.size, upd H1 s1.heap.objs.size (.dK kvs), I1.laid (t' := s1.toks) k (Nat.le_refl _) (dk_new z (beq_eq_false_iff_ne.mpr (Ne.symm (Nat.ne_of_lt I1.big))) rel d1), rfl, q _ hn⟩
/-- D.get(k), D a written dict of the module with text keys -/
def tKGet (K : PySem.W.Frag) (d : Addr) (td ty : TE) : TE := fun σ H Q => td σ H fun x H1 => x = .ref d ∧ ty σ H1 fun y H2 => ∃ (z : Str) (r : Option Value) (v : V), y = .str z ∧ PySem.W.nsIn K d z = some r ∧ RelV v (r.getD .none) ∧ Q v H2
theorem pe_kget {d : Addr} {es : Array DictEntry} {n : Nat} (D : KDict X.K X.w d es n) (ho : PE X o td) (he : PE X e ty) (m : M1 X o "get" apos e cpos) : PE X (.Call (.Attribute o "get" apos) [e] [] cpos) (tKGet X.K d td ty) := by
  refine ⟨fun pins s σ H Q I h => ?_⟩
  refine wpAny_Call_method m.base m.few m.line PySem.F.plainAttrs_dict PySem.F.slot_dict_get PySem.F.type_dict_get (thn (ho.run pins s σ H _ I h) fun u s1 ⟨x, H1, I1, rx, ex, q1⟩ => ?_)
  subst ex
  obtain rfl : u = Value.ref d := rx
  have hm1 := PySem.W.mapOf_K (prog := X.prog) (w := X.w) I1.kIn D.at_ D.lit
  refine ⟨hm1.typeIs, fun b q => ?_, ?_⟩
  · cases q
    exact ⟨_, I1.kIn _ _ D.at_, rfl⟩
  rw [m.trees]
  refine Calls.callWith_builtin rfl (Calls.evalArgs_plain (Calls.spliced_cons (thn (he.run pins s1 σ H1 _ I1 q1) fun iv s2 ⟨y, H2, I2, ry, z, r, v, ey, hn, rv, q2⟩ => Calls.spliced_nil ?_)))
  subst ey
  obtain ⟨t, rfl⟩ := ry
  have hm2 := PySem.W.mapOf_K (prog := X.prog) (w := X.w) I2.kIn D.at_ D.lit
  refine call_meetsIn PySem.F.slot_dict_get hm2.typeIs PySem.F.entry_dict_get (PySem.F.args_dict_get_2 _ _) (meets_dict_get (PySem.strKind X.prog X.w) d (strKind_is X.prog X.w z t) D.low) ⟨_, hm2, ?_⟩
  rw [PySem.W.find_K D.at_ hn]
  exact ⟨v, H2, I2.tok _, rv, q2⟩
/-- xs[i].replace('y', 'z'): i is written, so a token is out -/
theorem pe_replIx {a : Expr} {i : Int} {y z : Str} {j k l : Nat} {c0 c1 c2 p apos pos : Pos} {ta : TE} {r : R2} (hr : IxR X r) (ha : PE X a ta) (hs : PlainIx (.Constant (.int i) l c2)) (hyz : (y == z) = false := by decide)
    (hst : starEach [.Constant (.str y) j c0, .Constant (.str z) k c1] X.env = [(false, eval (.Constant (.str y) j c0) X.env), (false, eval (.Constant (.str z) k c1) X.env)] := by rfl)
    (hbase : attributeBase (.Subscript a (.Constant (.int i) l c2) p) "replace" X.env (eval (.Subscript a (.Constant (.int i) l c2) p) X.env) = eval (.Subscript a (.Constant (.int i) l c2) p) X.env := by rfl) (hline : (apos.endLine == pos.line) = true := by rfl) :
    PE X (.Call (.Attribute (.Subscript a (.Constant (.int i) l c2) p) "replace" apos) [.Constant (.str y) j c0, .Constant (.str z) k c1] [] pos) (CwR.tReplC (tOp r ta (tC (.int i))) y z) := by
  refine ⟨fun pins s σ H Q I h => ?_⟩
  refine PySem.Call_method2 hbase hst hline (Subscript_ (thn (ha.run pins s σ H _ I h) fun v s1 ⟨x, H1, I1, r1, q1⟩ => wpAny_Constant_int ?_))
  refine wpAny_mono (PySem.wpAny_toks (hr a (.Constant (.int i) l c2) pins { s1 with toks := s1.toks + 1 } σ H1 x (.int i) v _ _ (I1.tok _) r1 ⟨_, rfl⟩ q1 (hs _ _))) (fun v2 s2 q => ?_) fun _ _ z => z.2
  obtain ⟨hk, v', H2, I2, r2, tx, e1, hb, q⟩ := q
  have hk' : s1.toks + 1 ≤ s2.toks := hk
  subst e1
  obtain ⟨tk, e2⟩ := r2
  subst e2
  refine ⟨"str", _, PySem.F.plainAttrs_str, PySem.F.slot_str_replace, PySem.F.type_str_replace, typeIs_str _ _ _, (fun _ e => nomatch e), Calls.callWith_builtin rfl (Calls.evalArgs_plain (Calls.spliced_cons ?_))⟩
  refine Calls.Constant_str (Calls.spliced_cons (Calls.Constant_str (Calls.spliced_nil ?_)))
  exact PySem.SC.replace (by show s2.toks ≠ 0; omega) (by show s2.toks + 1 ≠ 0; omega) (by show s2.toks ≠ s2.toks + 1; omega) hyz hb fun t' k => ⟨.str (Txt.replace tx y z), H2, I2.tok k, ⟨t', rfl⟩, q⟩
end
end L2.Dk
set_option Elab.async false
set_option linter.all false
set_option maxRecDepth 100000
set_option maxHeartbeats 4000000
/-! Checks of numbers. -/
namespace L2.Dk
open PySem PySem.Spec PyProof.Rows
/-- what a caller takes of a def -/
def Cal (w : World) (K : PySem.W.Frag) (mg : Str → Option Value) (base : Heap) (CX : CXT) (k : Nat) (x : Str) (f : Addr) (ps : List Str) (sp : Sp) : Prop :=
  ∃ fd, mg x = some (.ref f) ∧ PySem.W.keepIn K (.ref f) = true ∧ Binds K fd ps [] ∧ FnOk prg w K mg base CX k f fd ps sp
/-- .. of a method -/
def CalM (w : World) (K : PySem.W.Frag) (mg : Str → Option Value) (base : Heap) (CX : CXT) (k : Nat) (C : Addr) (m : Str) (ps : List Str) (sp : Sp) : Prop :=
  ∃ fd f, Meth K C m f ∧ Binds K fd ps [] ∧ FnOk prg w K mg base CX k f fd ps sp
theorem passF {X : Cx} : Passes (L2.CX X.prog X.w) X (fun _ _ _ => False) := fun _ _ _ _ _ _ _ h => by
  obtain ⟨_, _, _, _, _, _, _, _, _, _, _, _, h⟩ := h
  exact h.elim
theorem Same.trans' {H H1 H2 : Hp} (a : Same H H1) (b : Same H1 H2) : Same H H2 := fun x o e => b x o (a x o e)
theorem Same.new {H H1 : Hp} {p : Addr} {o : HO} (s : Same H H1) (n : H1 p = none) : Same H (upd H1 p o) := fun b o' e => by
  rw [upd_ne (ne_of_none (s b o' e) n)]
  exact s b o' e
theorem Same.tup {K : PySem.W.Frag} {H H' : Hp} {a : Addr} {xs : List V} (e : Same H H') (h : SqT K H a xs) : SqT K H' a xs := by
  rcases h with h | h
  · rcases h with h | ⟨o, h⟩
    · exact .inl (.inl (e _ _ h))
    · exact .inl (.inr ⟨o, e _ _ h⟩)
  · exact .inr h
theorem take_snoc {α : Type} {l : List α} {i : Nat} {x : α} (h : l[i]? = some x) : l.take (i + 1) = l.take i ++ [x] := by
  rw [List.take_succ, h]
  rfl
/-- a comprehension without ifs whose element leaves what stands -/
theorem lc_same {J : It} {n : Nat} {G : Hp → Prop} {Y : Nat → Hp → V → Hp → Prop} (wk : Walk J n G Y) {g : TG} {te : TE} {vs : List Nat} {σ : St} {H1 : Hp} {D : Addr} {Qd : Hp → Prop} (hD : H1 D = none) (ys : List V) (hn : ys.length = n) (hz : n ≤ sizeLine)
    (hG : ∀ H, Same H1 H → G H)
    (hs : ∀ i x y H H' (Q : VK), i < n → Same H1 H → Y i H x H' → ys[i]? = some y → (∀ H4, Same H H4 → Q y H4) → g x (wipe σ vs) H' fun σ2 H2 => wipe σ2 vs = wipe σ vs ∧ te σ2 H2 Q)
    (hd : ∀ H, Same H1 H → H D = some (.lst ys) → Qd H) :
    ∃ W : Nat → Nat → Hp → Prop, (∃ m, W 0 m (upd H1 D (.lst []))) ∧ ∀ i m H, W i m H →
      (J.stop i H ∧ Qd H) ∨ (J.go i H ∧ ∃ Nx : Hp → Prop, (∀ H', Nx H' → ∃ m', m' < m ∧ W (i + 1) m' H') ∧ ∀ x H', J.yld i H x H' → g x (wipe σ vs) H' fun σ2 H2 => wipe σ2 vs = wipe σ vs ∧ tYes σ2 H2 fun b H3 =>
        if b = true then te σ2 H3 fun y H4 => ∃ acc, H4 D = some (.lst acc) ∧ acc.length < sizeLine ∧ Nx (upd H4 D (.lst (acc ++ [y]))) else Nx H3) := by
  refine lc_it wk (fun i H => Same H1 H ∧ H D = some (.lst (ys.take i))) ⟨Same.new (Same.refl _) hD, upd_same⟩ (fun i H _ h => hG H h.1) (fun i x H H' hi h y => ?_) (fun H h => hd H h.1 (by rw [h.2, ← hn, List.take_length]))
  obtain ⟨z, hz2⟩ : ∃ z, ys[i]? = some z := ⟨ys[i]'(by omega), by simp [hn, hi]⟩
  have q := hs i x z H H' (Q := fun y H4 => ∃ acc, H4 D = some (.lst acc) ∧ acc.length < sizeLine ∧ (Same H1 (upd H4 D (.lst (acc ++ [y]))) ∧ (upd H4 D (.lst (acc ++ [y]))) D = some (.lst (ys.take (i + 1))))) hi h.1 y hz2 fun H4 q2 => by
    refine ⟨ys.take i, q2 _ _ h.2, by rw [List.length_take]; omega, fun b o e => ?_, by rw [upd_same, take_snoc hz2]⟩
    rw [upd_ne (ne_of_none e hD)]
    exact q2 _ _ (h.1 _ _ e)
  unfold tYes
  simp only [if_true]
  exact q
theorem ite_t {c : Bool} {A B : Prop} (hc : c = true) (h : A) : if c = true then A else B := by rw [if_pos hc]; exact h
theorem ite_f {c : Bool} {A B : Prop} (hc : c = false) (h : B) : if c = true then A else B := by rw [hc, if_neg Bool.false_ne_true]; exact h
theorem ite_b {c : Bool} {A B : Prop} (h1 : c = true → A) (h2 : c = false → B) : if c = true then A else B := by
  cases c with
  | true => exact h1 rfl
  | false => exact h2 rfl
section
variable {w : World} {K : PySem.W.Frag} {mg : Str → Option Value} {base : Heap}
def spIsInt : Sp := fun vs H Q _ => ∃ i : Int, vs = [.int i] ∧ Q (.bl true) H
theorem sc_is_integer : FnScope ["thing"] ["thing"] (defScope s_is_integer) := ⟨rfl, rfl, rfl, by decide +kernel, rfl, by decide +kernel, by decide +kernel⟩
theorem c_is_integer (T : Txt w K mg) : Cal w K mg base CX0 1 "is_integer" (He.ga K "is_integer") ["thing"] spIsInt := by
  obtain ⟨fd, F⟩ := T.d_is_integer
  refine ⟨fd, T.g_is_integer, F.kp, F.bindsN fun _ _ _ _ _ _ us hl => match us, hl with | [_], _ => rfl, ?_⟩
  refine F.ok sc_is_integer (fun vs H Q E h => ?_) (fun cdv A outer s H vs Q E hr h => ?_)
  · obtain ⟨i, rfl, _⟩ := h
    rfl
  · obtain ⟨i, rfl, k⟩ := h
    refine ⟨_, pss_one (ps_ret (pe_and (pe_callB call_isi (by rfl) T.f_isinstance (by decide +kernel) (pa_cons (pv 0) (pa_cons (pe_bltn (v := .ty "int") (by rfl) T.f_int (by decide +kernel) rfl) pa_nil)))
      (pe_one (pe_not (pe_callB call_isi (by rfl) T.f_isinstance (by decide +kernel) (pa_cons (pv 0) (pa_cons (pe_bltn (v := .ty "bool") (by rfl) T.f_bool (by decide +kernel) rfl) pa_nil))))))), ?_⟩
    refine ⟨_, rfl, .int i, .ty "int", _, _, true, rfl, .ty _, .base (.int _), kit_ty (by decide +kernel), true, rfl, ?_⟩
    exact ⟨_, rfl, .int i, .ty "bool", _, _, false, rfl, .ty _, .base (.int _), kit_ty (by decide +kernel), false, rfl, k⟩
def spIsWithin : Sp := fun vs H Q _ => ∃ i a b : Int, vs = [.int i, .int a, .int b] ∧ Q (.bl (decide (a ≤ i) && decide (i ≤ b))) H
theorem sc_is_within : FnScope ["thing", "least", "most"] ["thing", "least", "most"] (defScope s_is_within) := ⟨rfl, rfl, rfl, by decide +kernel, rfl, by decide +kernel, by decide +kernel⟩
theorem c_is_within (T : Txt w K mg) : Cal w K mg base CX0 2 "is_within" (He.ga K "is_within") ["thing", "least", "most"] spIsWithin := by
  obtain ⟨fd, F⟩ := T.d_is_within
  obtain ⟨fd1, g1, k1, b1, G1⟩ := c_is_integer (base := base) T
  refine ⟨fd, T.g_is_within, F.kp, F.bindsN fun _ _ _ _ _ _ us hl => match us, hl with | [_, _, _], _ => rfl, ?_⟩
  refine F.ok sc_is_within (fun vs H Q E h => ?_) (fun cdv A outer s H vs Q E hr h => ?_)
  · obtain ⟨i, a, b, rfl, _⟩ := h
    rfl
  · obtain ⟨i, a, b, rfl, k⟩ := h
    refine ⟨_, pss_one (ps_ret (pe_and (pe_call G1 hr (by rfl) g1 k1 b1 .nil pass0 (pa_cons (pv 0) pa_nil)) (pe_one (pe_chain op_le op_le (pv 1) (pv 0) (pv 2))))), ?_⟩
    refine ⟨_, rfl, i, rfl, true, rfl, ?_⟩
    refine ⟨_, rfl, _, rfl, _, _, rfl, rfl, _, rfl, ?_⟩
    by_cases h1 : a ≤ i
    · refine ite_t (decide_eq_true h1) ?_
      refine ⟨_, rfl, _, _, rfl, rfl, ?_⟩
      rw [decide_eq_true h1] at k
      exact k
    · refine ite_f (decide_eq_false h1) ?_
      rw [decide_eq_false h1] at k
      exact k
end
end L2.Dk
set_option Elab.async false
set_option linter.all false
set_option maxRecDepth 100000
set_option maxHeartbeats 4000000
/-! Checks of readings; the class Program. -/
namespace L2.Dk
open PySem PySem.Spec PyProof.Rows
/-- a reading as it lies: a tuple of two numbers and a tuple -/
def RdT (H : Hp) (a : Addr) (k : Rd) : Prop := ∃ b, H a = some (.tup [.int k.1, .int k.2.1, .ref b]) ∧ H b = some (.tup (k.2.2.map V.int))
theorem RdT.at_ {K : PySem.W.Frag} {H : Hp} {a : Addr} {k : Rd} (h : RdT H a k) : RdAt K H a k := by
  obtain ⟨b, h1, h2⟩ := h
  exact ⟨b, .of h1, .of h2⟩
theorem RdT.same {H H' : Hp} {a : Addr} {k : Rd} (s : Same H H') (h : RdT H a k) : RdT H' a k := by
  obtain ⟨b, h1, h2⟩ := h
  exact ⟨b, s _ _ h1, s _ _ h2⟩
section
variable {w : World} {K : PySem.W.Frag} {mg : Str → Option Value} {base : Heap}
def spIsTriple : Sp := fun vs H Q _ => ∃ a xs, vs = [.ref a] ∧ H a = some (.tup xs) ∧ xs.length = 3 ∧ Q (.bl true) H
theorem sc_is_triple : FnScope ["thing"] ["thing"] (defScope s_is_triple) := ⟨rfl, rfl, rfl, by decide +kernel, rfl, by decide +kernel, by decide +kernel⟩
theorem c_is_triple (T : Txt w K mg) : Cal w K mg base CX0 1 "is_triple" (He.ga K "is_triple") ["thing"] spIsTriple := by
  obtain ⟨fd, F⟩ := T.d_is_triple
  refine ⟨fd, T.g_is_triple, F.kp, F.bindsN fun _ _ _ _ _ _ us hl => match us, hl with | [_], _ => rfl, ?_⟩
  refine F.ok sc_is_triple (fun vs H Q E h => ?_) (fun cdv A outer s H vs Q E hr h => ?_)
  · obtain ⟨a, xs, rfl, _⟩ := h
    rfl
  · obtain ⟨a, xs, rfl, ha, hl, k⟩ := h
    refine ⟨_, pss_one (ps_ret (pe_and (pe_callB call_isi (by rfl) T.f_isinstance (by decide +kernel) (pa_cons (pv 0) (pa_cons (pe_bltn (v := .ty "tuple") (by rfl) T.f_tuple (by decide +kernel) rfl) pa_nil)))
      (pe_one (pe_cmpR op_eq (pe_callB call_len (by rfl) T.f_len (by decide +kernel) (pa_cons (pv 0) pa_nil)) pe_int (nomark _))))), ?_⟩
    refine ⟨_, rfl, .ref a, .ty "tuple", _, _, true, rfl, .ty _, .base (.tup ha), kit_ty (by decide +kernel), true, rfl, ?_⟩
    refine ⟨_, rfl, _, 3, rfl, .inr ⟨_, SqT.of ha, hl.symm⟩, rfl, ?_⟩
    exact k
def spAreInts : Sp := fun vs H Q _ => ∃ (a : Addr) (ns : List Int), vs = [.ref a, .int (ns.length : Int)] ∧ H a = some (.tup (ns.map V.int)) ∧ ns.length ≤ 1000 ∧ ∀ H', Same H H' → Q (.bl true) H'
theorem sc_are_integers : FnScope ["thing", "many", "item"] ["thing", "many"] (defScope s_are_integers) := ⟨rfl, rfl, rfl, by decide +kernel, rfl, by decide +kernel, by decide +kernel⟩
theorem int_at {ns : List Int} {i : Nat} {x : V} (h : (ns.map V.int)[i]? = some x) : ∃ z, ns[i]? = some z ∧ x = .int z := by
  rw [List.getElem?_map] at h
  cases e : ns[i]? with
  | none => rw [e] at h; cases h
  | some z => rw [e] at h; exact ⟨z, rfl, (Option.some.inj h).symm⟩
theorem rep_at {n i : Nat} {x y : V} (h : (List.replicate n x)[i]? = some y) : y = x := List.eq_of_mem_replicate (List.mem_of_getElem? h)
theorem rep_all (n : Nat) : (List.replicate n true).all id = true := by
  rw [List.all_replicate]
  simp
theorem c_are_integers (T : Txt w K mg) : Cal w K mg base CX0 2 "are_integers" (He.ga K "are_integers") ["thing", "many"] spAreInts := by
  obtain ⟨fd, F⟩ := T.d_are_integers
  obtain ⟨fd1, g1, k1, b1, G1⟩ := c_is_integer (base := base) T
  refine ⟨fd, T.g_are_integers, F.kp, F.bindsN fun _ _ _ _ _ _ us hl => match us, hl with | [_, _], _ => rfl, ?_⟩
  refine F.ok sc_are_integers (fun vs H Q E h => ?_) (fun cdv A outer s H vs Q E hr h => ?_)
  · obtain ⟨a, ns, rfl, _⟩ := h
    rfl
  · obtain ⟨a, ns, rfl, ha, hl, k⟩ := h
    refine ⟨_, pss_one (ps_ret (pe_and (pe_callB call_isi (by rfl) T.f_isinstance (by decide +kernel) (pa_cons (pv 0) (pa_cons (pe_bltn (v := .ty "tuple") (by rfl) T.f_tuple (by decide +kernel) rfl) pa_nil)))
      (pe_and (pe_cmpR op_eq (pe_callB call_len (by rfl) T.f_len (by decide +kernel) (pa_cons (pv 0) pa_nil)) (pv 1) (nomark _))
      (pe_one (pe_callB (cr_all rfl) (by rfl) T.f_all (by decide +kernel) (pa_cons (pe_lc (own := [("item", 2)]) (g := gName 2) (tt := tYes) rfl sc_are_integers.nd (pi_tup (pv 0)) (blkOk_by (N := ["thing", "many", "item"]) (sc := defScope s_are_integers) (by decide +kernel))
        (fun _ _ _ _ _ => pg_name (i := 2) sc_are_integers.nd rfl (Or.inl rfl)) (fun _ _ _ _ _ => pts_nil)
        (fun _ _ _ _ _ => pe_call G1 hr (by rfl) g1 k1 b1 .nil pass0 (pa_cons (pv 2) pa_nil))) pa_nil)))))), ?_⟩
    refine ⟨_, rfl, .ref a, .ty "tuple", _, _, true, rfl, .ty _, .base (.tup ha), kit_ty (by decide +kernel), true, rfl, ?_⟩
    refine ⟨_, rfl, _, ns.length, rfl, .inr ⟨_, SqT.of ha, by simp⟩, _, rfl, rfl, _, rfl, ?_⟩
    refine ite_t (decide_eq_true rfl) ?_
    refine ⟨_, rfl, a, rfl, ⟨_, SqT.of ha⟩, fun D hD => ?_⟩
    refine lc_same (walk_tup (xs := ns.map V.int)) hD (List.replicate ns.length (V.bl true)) (by simp) (by simp; exact Nat.le_trans hl (by decide)) (fun H' s' => Same.tup s' (SqT.of ha)) (fun i x y H1 H2 Q' hi s' yy hy q => ?_) (fun H' s' hD' => ?_)
    · obtain ⟨rfl, e⟩ := yy
      obtain ⟨z, hz, rfl⟩ := int_at e
      refine ⟨rfl, _, rfl, z, rfl, ?_⟩
      rw [← rep_at hy]
      exact q _ (Same.refl _)
    · refine ⟨_, List.replicate ns.length true, rfl, .of (by rw [List.map_replicate]; exact hD'), ?_⟩
      rw [rep_all]
      exact k _ s'
def spAreWithin : Sp := fun vs H Q _ => ∃ (a : Addr) (ns : List Int) (lo hi : Int), vs = [.ref a, .int (ns.length : Int), .int lo, .int hi] ∧ H a = some (.tup (ns.map V.int)) ∧ ns.length ≤ 1000 ∧ (∀ n ∈ ns, lo ≤ n ∧ n ≤ hi) ∧ ∀ H', Same H H' → Q (.bl true) H'
theorem sc_are_within : FnScope ["thing", "many", "least", "most", "item"] ["thing", "many", "least", "most"] (defScope s_are_within) := ⟨rfl, rfl, rfl, by decide +kernel, rfl, by decide +kernel, by decide +kernel⟩
theorem c_are_within (T : Txt w K mg) : Cal w K mg base CX0 3 "are_within" (He.ga K "are_within") ["thing", "many", "least", "most"] spAreWithin := by
  obtain ⟨fd, F⟩ := T.d_are_within
  obtain ⟨fd1, g1, k1, b1, G1⟩ := c_are_integers (base := base) T
  refine ⟨fd, T.g_are_within, F.kp, F.bindsN fun _ _ _ _ _ _ us hl => match us, hl with | [_, _, _, _], _ => rfl, ?_⟩
  refine F.ok sc_are_within (fun vs H Q E h => ?_) (fun cdv A outer s H vs Q E hr h => ?_)
  · obtain ⟨a, ns, lo, hi, rfl, _⟩ := h
    rfl
  · obtain ⟨a, ns, lo, hi, rfl, ha, hl, hw, k⟩ := h
    refine ⟨_, pss_one (ps_ret (pe_and (pe_call G1 hr (by rfl) g1 k1 b1 .nil pass0 (pa_cons (pv 0) (pa_cons (pv 1) pa_nil)))
      (pe_one (pe_callB (cr_all rfl) (by rfl) T.f_all (by decide +kernel) (pa_cons (pe_lc (own := [("item", 4)]) (g := gName 4) (tt := tYes) rfl sc_are_within.nd (pi_tup (pv 0)) (blkOk_by (N := ["thing", "many", "least", "most", "item"]) (sc := defScope s_are_within) (by decide +kernel))
        (fun _ _ _ _ _ => pg_name (i := 4) sc_are_within.nd rfl (Or.inl rfl)) (fun _ _ _ _ _ => pts_nil)
        (fun _ _ _ _ _ => pe_chain op_le op_le (pv 2) (pv 4) (pv 3))) pa_nil))))), ?_⟩
    refine ⟨_, rfl, _, rfl, a, ns, rfl, ha, hl, fun H1 s1 => ?_⟩
    refine ⟨true, rfl, ?_⟩
    refine ite_t rfl ?_
    refine ⟨_, rfl, a, rfl, ⟨_, SqT.of (s1 _ _ ha)⟩, fun D hD => ?_⟩
    refine lc_same (walk_tup (xs := ns.map V.int)) hD (List.replicate ns.length (V.bl true)) (by simp) (by simp; exact Nat.le_trans hl (by decide)) (fun H' s' => Same.tup s' (SqT.of (s1 _ _ ha))) (fun i x y H1 H2 Q' hi' s' yy hy q => ?_) (fun H' s' hD' => ?_)
    · obtain ⟨rfl, e⟩ := yy
      obtain ⟨z, hz, rfl⟩ := int_at e
      obtain ⟨w1, w2⟩ := hw z (List.mem_of_getElem? hz)
      have q2 := q _ (Same.refl _)
      rw [rep_at hy] at q2
      refine ⟨rfl, _, rfl, _, rfl, _, _, rfl, rfl, _, rfl, ?_⟩
      refine ite_t (decide_eq_true w1) ?_
      refine ⟨_, rfl, _, _, rfl, rfl, ?_⟩
      show Q' (.bl (decide (z ≤ hi))) _
      rw [decide_eq_true w2]
      exact q2
    · refine ⟨_, List.replicate ns.length true, rfl, .of (by rw [List.map_replicate]; exact hD'), ?_⟩
      rw [rep_all]
      exact k _ (Same.trans s1 s')
end
end L2.Dk
set_option Elab.async false
set_option linter.all false
set_option maxRecDepth 100000
set_option maxHeartbeats 4000000
/-! is_reading; the class Program. -/
namespace L2.Dk
open PySem PySem.Spec PyProof.Rows
/-- a reading that the checks let pass -/
def RdGood (S T : Int) (k : Rd) : Prop := (k.2.2.length : Int) = S ∧ k.2.2.length ≤ 1000 ∧ (0 ≤ k.1 ∧ k.1 ≤ T - 1) ∧ (0 ≤ k.2.1 ∧ k.2.1 ≤ T - 1) ∧ ∀ n ∈ k.2.2, -1000000000000 ≤ n ∧ n ≤ 1000000000000
structure Parts where
  S : Int
  T : Int
  rs : List Rd
structure Parts.Good (p : Parts) : Prop where
  s : 1 ≤ p.S ∧ p.S ≤ 4
  t : 1 ≤ p.T ∧ p.T ≤ 8
  len : p.rs.length ≤ 24
  each : ∀ k ∈ p.rs, RdGood p.S p.T k
  up : p.rs.Pairwise rlt
def progF (S T : Int) (r : Addr) : List (Str × V) := putF "readings" (.ref r) (putF "tables" (.int T) (putF "sides" (.int S) []))
/-- readings as they lie in a tuple at r -/
def RdsT (H : Hp) (r : Addr) (rs : List Rd) : Prop := ∃ ks : List (Addr × Rd), H r = some (.tup (ks.map fun q => V.ref q.1)) ∧ ks.map (·.2) = rs ∧ ∀ q ∈ ks, RdT H q.1 q.2
theorem RdsT.same {H H' : Hp} {r : Addr} {rs : List Rd} (s : Same H H') (h : RdsT H r rs) : RdsT H' r rs := by
  obtain ⟨ks, h1, h2, h3⟩ := h
  exact ⟨ks, s _ _ h1, h2, fun q hq => RdT.same s (h3 q hq)⟩
def ProgAt (K : PySem.W.Frag) (H : Hp) (a : Addr) (p : Parts) : Prop := ∃ dx r, H a = some (.ins (He.ga K "Program") dx (progF p.S p.T r)) ∧ RdsT H r p.rs
theorem ProgAt.same {K : PySem.W.Frag} {H H' : Hp} {a : Addr} {p : Parts} (s : Same H H') (h : ProgAt K H a p) : ProgAt K H' a p := by
  obtain ⟨dx, r, h1, h2⟩ := h
  exact ⟨dx, r, s _ _ h1, RdsT.same s h2⟩
section
variable {w : World} {K : PySem.W.Frag} {mg : Str → Option Value} {base : Heap}
def spIsReading : Sp := fun vs H Q _ => ∃ (S T : Int) (a : Addr) (k : Rd), vs = [.int S, .int T, .ref a] ∧ RdT H a k ∧ RdGood S T k ∧ ∀ H', Same H H' → Q (.bl true) H'
theorem sc_is_reading : FnScope ["sides", "tables", "thing"] ["sides", "tables", "thing"] (defScope s_is_reading) := ⟨rfl, rfl, rfl, by decide +kernel, rfl, by decide +kernel, by decide +kernel⟩
theorem c_is_reading (T : Txt w K mg) : Cal w K mg base CX0 4 "is_reading" (He.ga K "is_reading") ["sides", "tables", "thing"] spIsReading := by
  obtain ⟨fd, F⟩ := T.d_is_reading
  obtain ⟨fd1, g1, k1, b1, G1⟩ := c_is_triple (base := base) T
  obtain ⟨fd2, g2, k2, b2, G2⟩ := c_is_within (base := base) T
  obtain ⟨fd3, g3, k3, b3, G3⟩ := c_are_within (base := base) T
  obtain ⟨t4, g4⟩ := T.i_MOST_STEP
  refine ⟨fd, T.g_is_reading, F.kp, F.bindsN fun _ _ _ _ _ _ us hl => match us, hl with | [_, _, _], _ => rfl, ?_⟩
  refine F.ok sc_is_reading (fun vs H Q E h => ?_) (fun cdv A outer s H vs Q E hr h => ?_)
  · obtain ⟨S, Tt, a, k, rfl, _⟩ := h
    rfl
  · obtain ⟨S, Tt, a, k, rfl, ⟨b, h1, h2⟩, ⟨l1, l2, ⟨r1, r2⟩, ⟨r3, r4⟩, r5⟩, q⟩ := h
    refine ⟨_, pss_cons (ps_if (PW.pt (pw_or (pt_not (pt_val (pe_call G1 (hr.mono (by decide)) (by rfl) g1 k1 b1 .nil pass0 (pa_cons (pv 2) pa_nil))))
      (pw_or (pt_not (pt_val (pe_call G2 (hr.mono (by decide)) (by rfl) g2 k2 b2 .nil pass0 (pa_cons (pe_ix ix_tup (pv 2) pe_int (fun _ _ => rfl)) (pa_cons pe_int (pa_cons (pe_op op_sub (pv 1) pe_int) pa_nil))))))
      (pw_or1 (pt_not (pt_val (pe_call G2 (hr.mono (by decide)) (by rfl) g2 k2 b2 .nil pass0 (pa_cons (pe_ix ix_tup (pv 2) pe_int (fun _ _ => rfl)) (pa_cons pe_int (pa_cons (pe_op op_sub (pv 1) pe_int) pa_nil)))))))))) pss_never pss_nil)
      (pss_one (ps_ret (pe_call G3 hr (by rfl) g3 k3 b3 .nil pass0 (pa_cons (pe_ix ix_tup (pv 2) pe_int (fun _ _ => rfl)) (pa_cons (pv 0) (pa_cons (pe_un un_neg (pe_glob (v := .int 1000000000000) (by rfl) g4 ⟨t4, rfl⟩)) (pa_cons (pe_glob (v := .int 1000000000000) (by rfl) g4 ⟨t4, rfl⟩) pa_nil))))))), ?_⟩
    refine ⟨_, rfl, a, _, rfl, h1, rfl, true, rfl, ?_⟩
    refine ite_f rfl ?_
    refine ⟨_, rfl, a, _, _, _, rfl, rfl, SqT.of h1, rfl, _, rfl, _, _, rfl, rfl, k.1, 0, Tt - 1, rfl, true, by rw [decide_eq_true r1, decide_eq_true r2]; rfl, ?_⟩
    refine ite_f rfl ?_
    refine ⟨_, rfl, a, _, _, _, rfl, rfl, SqT.of h1, rfl, _, rfl, _, _, rfl, rfl, k.2.1, 0, Tt - 1, rfl, true, by rw [decide_eq_true r3, decide_eq_true r4]; rfl, ?_⟩
    refine ite_f rfl ?_
    refine ⟨_, rfl, a, _, _, _, rfl, rfl, SqT.of h1, rfl, _, rfl, _, rfl, ?_⟩
    exact ⟨b, k.2.2, -1000000000000, 1000000000000, by rw [l1]; rfl, h2, l2, r5, q⟩
/-! ### Program -/
theorem nf1 : ¬ (("sides" : Str) = "tables") := by decide +kernel
def spProgKeep (K : PySem.W.Frag) : Sp := fun vs H Q _ => ∃ (p dx r : Addr) (S T : Int), vs = [.ref p, .int S, .int T, .ref r] ∧ H p = some (.ins (He.ga K "Program") dx []) ∧ Q .non (upd H p (.ins (He.ga K "Program") dx (progF S T r)))
theorem sc_Program_keep : FnScope ["self", "sides", "tables", "readings"] ["self", "sides", "tables", "readings"] (defScope s_Program_keep) := ⟨rfl, rfl, rfl, by decide +kernel, rfl, by decide +kernel, by decide +kernel⟩
theorem upd_upd {H : Hp} {a : Addr} {o o' : HO} : upd (upd H a o) a o' = upd H a o' := by
  funext b
  by_cases h : b = a
  · subst h
    rw [upd_same, upd_same]
  · rw [upd_ne h, upd_ne h, upd_ne h]
theorem c_Program_keep (T : Txt w K mg) : CalM w K mg base CX0 1 (He.ga K "Program") "keep" ["self", "sides", "tables", "readings"] (spProgKeep K) := by
  obtain ⟨fd, F⟩ := T.d_Program_keep
  refine ⟨fd, _, T.m_Program_keep, F.bindsN fun _ _ _ _ _ _ us hl => match us, hl with | [_, _, _, _], _ => rfl, ?_⟩
  refine F.ok sc_Program_keep (fun vs H Q E h => ?_) (fun cdv A outer s H vs Q E hr h => ?_)
  · obtain ⟨p, dx, r, S, Tt, rfl, _⟩ := h
    rfl
  · obtain ⟨p, dx, r, S, Tt, rfl, hp, k⟩ := h
    refine ⟨_, pss_cons (ps_fld (pv 0) (pv 1) rfl) (pss_cons (ps_fld (pv 0) (pv 2) rfl) (pss_one (ps_fld (pv 0) (pv 3) rfl))), ?_⟩
    refine ⟨_, rfl, _, rfl, p, _, dx, [], rfl, hp, T.cl_Program, T.no_Program_sides, (by show 0 < 1000; decide), ?_⟩
    refine ⟨_, rfl, _, rfl, p, _, dx, _, rfl, upd_same, T.cl_Program, T.no_Program_tables, (by show 1 < 1000; decide), ?_⟩
    refine ⟨_, rfl, _, rfl, p, _, dx, _, rfl, upd_same, T.cl_Program, T.no_Program_readings, ?_, ?_⟩
    · show (if ("sides" : Str) = "tables" then [(("sides" : Str), V.int Tt)] else (("sides" : Str), V.int S) :: [(("tables" : Str), V.int Tt)]).length < 1000
      rw [if_neg nf1]
      show 2 < 1000
      decide
    · rw [upd_upd, upd_upd]
      exact k
def spProgInit (K : PySem.W.Frag) : Sp := fun vs H Q _ => ∃ (p dx r : Addr) (P : Parts), vs = [.ref p, .int P.S, .int P.T, .ref r] ∧ P.Good ∧ H p = some (.ins (He.ga K "Program") dx []) ∧ RdsT H r P.rs ∧
  ∀ H', (∀ b o, b ≠ p → H b = some o → H' b = some o) → H' p = some (.ins (He.ga K "Program") dx (progF P.S P.T r)) → Q .non H'
theorem sc_Program_init : FnScope ["self", "sides", "tables", "readings", "number", "item"] ["self", "sides", "tables", "readings"] (defScope s_Program_init) := ⟨rfl, rfl, rfl, by decide +kernel, rfl, by decide +kernel, by decide +kernel⟩
theorem pair_at {ks : List (Addr × Rd)} {i : Nat} {x : V} (h : (ks.map fun q => V.ref q.1)[i]? = some x) : ∃ q, ks[i]? = some q ∧ x = .ref q.1 := by
  rw [List.getElem?_map] at h
  cases e : ks[i]? with
  | none => rw [e] at h; cases h
  | some z => rw [e] at h; exact ⟨z, rfl, (Option.some.inj h).symm⟩
theorem c_Program_init (T : Txt w K mg) : ∃ fd, Mk K (He.ga K "Program") (He.ma K (He.ga K "Program") "__init__") ∧ Binds K fd ["self", "sides", "tables", "readings"] [] ∧ FnOk prg w K mg base CX0 5 (He.ma K (He.ga K "Program") "__init__") fd ["self", "sides", "tables", "readings"] (spProgInit K) := by
  obtain ⟨fd, F⟩ := T.d_Program_init
  obtain ⟨fd1, g1, k1, b1, G1⟩ := c_is_within (base := base) T
  obtain ⟨fd2, g2, k2, b2, G2⟩ := c_is_reading (base := base) T
  obtain ⟨fd3, f3, m3, b3, G3⟩ := c_Program_keep (base := base) T
  obtain ⟨t4, g4⟩ := T.i_MOST_SIDES
  obtain ⟨t5, g5⟩ := T.i_MOST_TABLES
  obtain ⟨t6, g6⟩ := T.i_MOST_READINGS
  refine ⟨fd, T.mk_Program, F.bindsN fun _ _ _ _ _ _ us hl => match us, hl with | [_, _, _, _], _ => rfl, ?_⟩
  refine F.ok sc_Program_init (fun vs H Q E h => ?_) (fun cdv A outer s H vs Q E hr h => ?_)
  · obtain ⟨p, dx, r, P, rfl, _⟩ := h
    rfl
  · obtain ⟨p, dx, r, P, rfl, ⟨⟨s1, s2⟩, ⟨t1, t2⟩, hlen, each, up⟩, hp, ⟨ks, hk, ek, hks⟩, q⟩ := h
    have hu2 : _ + 2 < cLine := Nat.lt_of_le_of_lt (Nat.add_le_add_left (by decide : 2 ≤ 64) _) hr.units
    have hlk : ks.length = P.rs.length := by rw [← ek, List.length_map]
    refine ⟨_, PSs.nox (pss_cons (ps_if (pt_not (pt_val (pe_call G1 (hr.mono (by decide)) (by rfl) g1 k1 b1 .nil pass0 (pa_cons (pv 1) (pa_cons pe_int (pa_cons (pe_glob (v := .int 4) (by rfl) g4 ⟨t4, rfl⟩) pa_nil)))))) pss_never pss_nil)
      (pss_cons (ps_if (pt_not (pt_val (pe_call G1 (hr.mono (by decide)) (by rfl) g1 k1 b1 .nil pass0 (pa_cons (pv 2) (pa_cons pe_int (pa_cons (pe_glob (v := .int 8) (by rfl) g5 ⟨t5, rfl⟩) pa_nil)))))) pss_never pss_nil)
      (pss_cons (ps_if (PW.pt (pw_or (pt_not (pt_val (pe_callB call_isi (by rfl) T.f_isinstance (by decide +kernel) (pa_cons (pv 3) (pa_cons (pe_bltn (v := .ty "tuple") (by rfl) T.f_tuple (by decide +kernel) rfl) pa_nil)))))
        (pw_or1 (pt_cmpR op_gt (pe_callB call_len (by rfl) T.f_len (by decide +kernel) (pa_cons (pv 3) pa_nil)) (pe_glob (v := .int 24) (by rfl) g6 ⟨t6, rfl⟩) (nomark _))))) pss_never pss_nil)
      (pss_cons (ps_for PassesOwn.never rfl (pi_enumT (by rfl) T.f_enumerate (pa_cons (pv 3) pa_nil)) (pg_tup rfl (pgs_cons (pg_name (i := 4) sc_Program_init.nd rfl (Or.inl rfl)) (pgs_cons (pg_name (i := 5) sc_Program_init.nd rfl (Or.inl rfl)) pgs_nil)))
        (pss_one (ps_if (PW.pt (pw_or (pt_not (pt_val (pe_call G2 (hr.mono (by decide)) (by rfl) g2 k2 b2 .nil pass0 (pa_cons (pv 1) (pa_cons (pv 2) (pa_cons (pv 5) pa_nil))))))
          (pw_or1 (PW.pt (pw_and (pt_cmpR op_gt (pv 4) pe_int (nomark _)) (pw_and1 (pt_cmpR (op_leR hu2) (pv 5) (pe_ix ix_tup (pv 3) (pe_op op_sub (pv 4) pe_int) (fun _ _ => rfl)) (nomark _)))))))) pss_never pss_nil)))
      (pss_one (ps_expr (pe_meth (pv 0) T.cl_Program m3 G3 (hr.mono (by decide)) b3 .nil pass0 (pa_cons (pv 1) (pa_cons (pv 2) (pa_cons (pv 3) pa_nil)))))))))), ?_⟩
    refine ⟨_, rfl, _, 1, 4, rfl, true, by rw [decide_eq_true s1, decide_eq_true s2]; rfl, ?_⟩
    refine ite_f rfl ?_
    refine ⟨_, rfl, _, 1, 8, rfl, true, by rw [decide_eq_true t1, decide_eq_true t2]; rfl, ?_⟩
    refine ite_f rfl ?_
    refine ⟨_, rfl, .ref r, .ty "tuple", _, _, true, rfl, .ty _, .base (.tup hk), kit_ty (by decide +kernel), true, rfl, ?_⟩
    refine ite_f rfl ?_
    refine ⟨_, rfl, _, ks.length, rfl, .inr ⟨_, SqT.of hk, by simp⟩, _, _, rfl, rfl, _, rfl, ?_⟩
    refine ite_f (decide_eq_false (by omega)) ?_
    refine ⟨_, rfl, r, _, rfl, SqT.of hk, ?_⟩
    refine for_it (walk_enumT (xs := ks.map fun q => V.ref q.1)) (fun i σ H' => ∃ n it, σ = [some (.ref p), some (.int P.S), some (.int P.T), some (.ref r), n, it] ∧ Same H H') ⟨none, none, rfl, Same.refl _⟩ (fun i σ H' _ h => ?_) (fun i x σ H1 H2 hi h y => ?_) (fun σ H' h => ?_)
    · obtain ⟨_, _, _, s'⟩ := h
      exact Same.tup s' (SqT.of hk)
    · obtain ⟨n, it, rfl, s'⟩ := h
      obtain ⟨Tp, x, y, rfl, nT, rfl, e1, e2⟩ := y
      cases e1
      obtain ⟨kq, e3, rfl⟩ := pair_at e2
      have hq := List.mem_of_getElem? e3
      have s2 : Same H (upd H1 Tp (.tup [.int (i : Int), .ref kq.1])) := Same.new s' nT
      have hkq : kq.2 ∈ P.rs := by rw [← ek]; exact List.mem_map_of_mem hq
      refine ⟨Tp, _, rfl, SqT.of upd_same, rfl, _, _, rfl, _, _, rfl, rfl, ?_⟩
      refine ⟨_, rfl, _, rfl, _, rfl, P.S, P.T, kq.1, kq.2, rfl, RdT.same s2 (hks _ hq), each _ hkq, fun H3 s3 => ?_⟩
      refine ⟨true, rfl, ite_f rfl ?_⟩
      have s4 := Same.trans s2 s3
      refine ⟨_, rfl, _, _, rfl, rfl, _, rfl, ?_⟩
      by_cases h0 : (i : Int) > 0
      · refine ite_t (decide_eq_true h0) ?_
        obtain ⟨j, rfl⟩ : ∃ j, i = j + 1 := ⟨i - 1, by omega⟩
        obtain ⟨kp, e5⟩ : ∃ kp, ks[j]? = some kp := ⟨ks[j]'(by have := (List.getElem?_eq_some_iff.mp e3).1; omega), by simp⟩
        have hp5 := List.mem_of_getElem? e5
        refine ⟨_, rfl, _, rfl, _, rfl, _, _, rfl, rfl, r, _, _, V.ref kp.1, rfl, rfl, Same.tup s4 (SqT.of hk), ?_, ?_⟩
        · have : ((j + 1 : Nat) : Int) - 1 = (j : Int) := by omega
          rw [this]
          exact atI_nat (by rw [List.getElem?_map, e5]; rfl)
        refine ⟨kq.1, kp.1, kq.2, kp.2, rfl, rfl, (RdT.same s4 (hks _ hq)).at_, (RdT.same s4 (hks _ hp5)).at_, _, rfl, ?_⟩
        have lt : rlt kp.2 kq.2 := by
          have u2 := up
          rw [← ek] at u2
          have z1 := (List.getElem?_eq_some_iff.mp e3)
          have z2 := (List.getElem?_eq_some_iff.mp e5)
          have := List.pairwise_iff_getElem.mp u2 j (j + 1) (by rw [List.length_map]; exact z2.1) (by rw [List.length_map]; exact z1.1) (by omega)
          rw [List.getElem_map, List.getElem_map, z1.2, z2.2] at this
          exact this
        refine ite_f (by unfold rlt at lt; rw [lt]; rfl) ?_
        exact ⟨_, _, rfl, s4⟩
      · refine ite_f (decide_eq_false h0) ?_
        refine ite_f rfl ?_
        exact ⟨_, _, rfl, s4⟩
    · obtain ⟨n, it, rfl, s'⟩ := h
      refine ⟨_, rfl, p, dx, _, rfl, s' _ _ hp, rfl, _, rfl, _, rfl, _, rfl, ?_⟩
      refine ⟨p, dx, r, P.S, P.T, rfl, s' _ _ hp, ?_⟩
      refine q _ (fun b o hb e => ?_) upd_same
      rw [upd_ne hb]
      exact s' _ _ e
end
end L2.Dk
set_option Elab.async false
set_option linter.all false
set_option maxRecDepth 100000
set_option maxHeartbeats 4000000
/-! The words of a program's text. -/
namespace L2.Dk
open PySem PySem.Spec PyProof.Rows
def figW : List Str := ["0", "1", "2", "3"]
def numW : List Str := ["0", "1", "2", "3", "-1"]
def iT (i : Int) : Str := Str.ofString (toString i)
theorem figW_one {z : Str} (h : z ∈ figW) : ∃ c : Nat, z = ⟨#[c]⟩ ∧ c ∈ (Str.ofString "0123456789").cps.toList := by
  have h2 : z = "0" ∨ z = "1" ∨ z = "2" ∨ z = "3" := by simpa [figW] using h
  rcases h2 with rfl | rfl | rfl | rfl
  · exact ⟨48, by decide +kernel, by decide +kernel⟩
  · exact ⟨49, by decide +kernel, by decide +kernel⟩
  · exact ⟨50, by decide +kernel, by decide +kernel⟩
  · exact ⟨51, by decide +kernel, by decide +kernel⟩
section
variable {w : World} {K : PySem.W.Frag} {mg : Str → Option Value} {base : Heap}
def spIsFigures : Sp := fun vs H Q _ => ∃ z : Str, vs = [.str z] ∧ z ∈ figW ∧ ∀ H', Same H H' → Q (.bl true) H'
theorem sc_is_figures : FnScope ["word", "sign"] ["word"] (defScope s_is_figures) := ⟨rfl, rfl, rfl, by decide +kernel, rfl, by decide +kernel, by decide +kernel⟩
theorem c_is_figures (T : Txt w K mg) : Cal w K mg base CX0 1 "is_figures" (He.ga K "is_figures") ["word"] spIsFigures := by
  obtain ⟨fd, F⟩ := T.d_is_figures
  obtain ⟨t4, g4⟩ := T.i_MOST_FIGURES
  obtain ⟨t5, g5⟩ := T.t_DIGITS
  refine ⟨fd, T.g_is_figures, F.kp, F.bindsN fun _ _ _ _ _ _ us hl => match us, hl with | [_], _ => rfl, ?_⟩
  refine F.ok sc_is_figures (fun vs H Q E h => ?_) (fun cdv A outer s H vs Q E hr h => ?_)
  · obtain ⟨z, rfl, _⟩ := h
    rfl
  · obtain ⟨z, rfl, hz, k⟩ := h
    obtain ⟨c, rfl, hc⟩ := figW_one hz
    refine ⟨_, pss_cons (ps_if (PW.pt (pw_or (pt_not (pt_chain op_le op_le pe_int (pe_callB call_len (by rfl) T.f_len (by decide +kernel) (pa_cons (pv 0) pa_nil)) (pe_glob (v := .int 60) (by rfl) g4 ⟨t4, rfl⟩)))
        (pw_or1 (pt_not (pt_val (pe_callB (cr_all rfl) (by rfl) T.f_all (by decide +kernel) (pa_cons (pe_lc (own := [("sign", 1)]) (g := gName 1) (tt := tYes) rfl sc_is_figures.nd (pi_str (pv 0)) (blkOk_by (N := ["word", "sign"]) (sc := defScope s_is_figures) (by decide +kernel))
          (fun _ _ _ _ _ => pg_name (i := 1) sc_is_figures.nd rfl (Or.inl rfl)) (fun _ _ _ _ _ => pts_nil)
          (fun _ _ _ _ _ => pe_cmpR op_in_sign (pv 1) (pe_glob (v := .str "0123456789") (by rfl) g5 ⟨t5, rfl⟩) rfl)) pa_nil))))))) pss_never pss_nil)
      (pss_one (ps_ret (pe_or (pe_cmpR op_eq (pv 0) pe_str (nomark _)) (pe_one (pe_cmpR op_ne (pe_ix ix_str (pv 0) pe_int (fun _ _ => rfl)) pe_str (nomark _)))))), ?_⟩
    refine ⟨_, rfl, _, 1, rfl, ⟨by show 1 ≤ sizeLine; decide, rfl⟩, _, _, rfl, rfl, true, rfl, ?_⟩
    refine ite_t rfl ?_
    refine ⟨_, _, rfl, rfl, true, rfl, ?_⟩
    refine ite_f rfl ?_
    refine ⟨_, rfl, _, rfl, fun D hD => ?_⟩
    refine lc_same (walk_str (z := ⟨#[c]⟩)) hD [V.bl true] rfl (by show 1 ≤ sizeLine; decide) (fun _ _ => True.intro) (fun i x y H1 H2 Q' hi s' yy hy q => ?_) (fun H' s' hD' => ?_)
    · obtain ⟨rfl, c', hc', rfl⟩ := yy
      have hi0 : i = 0 := by
        have : i < 1 := hi
        omega
      subst hi0
      have ec : c = c' := Option.some.inj hc'
      subst ec
      have ey : V.bl true = y := Option.some.inj hy
      subst ey
      refine ⟨rfl, _, rfl, c, _, rfl, rfl, ?_⟩
      rw [decide_eq_true hc]
      exact q _ (Same.refl _)
    · refine ⟨_, [true], rfl, .of hD', true, rfl, ?_⟩
      refine ite_f rfl ?_
      refine ⟨_, rfl, rfl, _, rfl, ?_⟩
      by_cases h0 : V.str ⟨#[c]⟩ = V.str "0"
      · refine ite_t (decide_eq_true h0) ?_
        exact k _ s'
      · refine ite_f (decide_eq_false h0) ?_
        refine ⟨_, rfl, _, _, c, rfl, rfl, by show 1 ≤ sizeLine; decide, atI_nat (j := 0) rfl, rfl, ?_⟩
        show Q (.bl (!decide (V.str ⟨#[c]⟩ = V.str "0"))) _
        rw [decide_eq_false h0]
        exact k _ s'
def spIsSigned : Sp := fun vs H Q _ => ∃ z : Str, vs = [.str z] ∧ z ∈ numW ∧ ∀ H', Same H H' → Q (.bl true) H'
theorem sc_is_signed : FnScope ["word"] ["word"] (defScope s_is_signed) := ⟨rfl, rfl, rfl, by decide +kernel, rfl, by decide +kernel, by decide +kernel⟩
theorem numW_cut {z : Str} (h : z ∈ numW) : z.length ≤ 2 ∧ ((cutS z none (some 1) = "-" ∧ cutS z (some 1) none ∈ figW ∧ z ≠ "-0") ∨ (cutS z none (some 1) ≠ "-" ∧ z ∈ figW)) := by
  have h2 : z = "0" ∨ z = "1" ∨ z = "2" ∨ z = "3" ∨ z = "-1" := by simpa [numW] using h
  rcases h2 with rfl | rfl | rfl | rfl | rfl <;> decide +kernel
theorem c_is_signed (T : Txt w K mg) : Cal w K mg base CX0 2 "is_signed" (He.ga K "is_signed") ["word"] spIsSigned := by
  obtain ⟨fd, F⟩ := T.d_is_signed
  obtain ⟨fd1, g1, k1, b1, G1⟩ := c_is_figures (base := base) T
  refine ⟨fd, T.g_is_signed, F.kp, F.bindsN fun _ _ _ _ _ _ us hl => match us, hl with | [_], _ => rfl, ?_⟩
  refine F.ok sc_is_signed (fun vs H Q E h => ?_) (fun cdv A outer s H vs Q E hr h => ?_)
  · obtain ⟨z, rfl, _⟩ := h
    rfl
  · obtain ⟨z, rfl, hz, k⟩ := h
    obtain ⟨hl, hc⟩ := numW_cut hz
    have hl2 : z.length ≤ sizeLine := Nat.le_trans hl (by decide)
    refine ⟨_, pss_cons (ps_if (pt_cmpR op_eq (pe_slice sl_str (pv 0) po_none (po_some pe_int)) pe_str (nomark _))
        (pss_one (ps_ret (pe_and (pe_call G1 hr (by rfl) g1 k1 b1 .nil pass0 (pa_cons (pe_slice sl_str (pv 0) (po_some pe_int) po_none) pa_nil)) (pe_one (pe_cmpR op_ne (pv 0) pe_str (nomark _)))))) pss_nil)
      (pss_one (ps_ret (pe_call G1 hr (by rfl) g1 k1 b1 .nil pass0 (pa_cons (pv 0) pa_nil)))), ?_⟩
    refine ⟨_, rfl, ?_⟩
    rcases hc with ⟨c1, c2, c3⟩ | ⟨c1, c2⟩
    · refine ⟨1, rfl, z, rfl, hl2, rfl, _, rfl, ?_⟩
      refine ite_t (decide_eq_true (by rw [c1])) ?_
      refine ⟨_, rfl, 1, rfl, z, rfl, hl2, _, rfl, c2, fun H1 s1 => ?_⟩
      refine ⟨true, rfl, ite_t rfl ?_⟩
      refine ⟨_, rfl, rfl, ?_⟩
      show Q (.bl (!decide (V.str z = V.str "-0"))) _
      rw [decide_eq_false fun e => c3 (V.str.inj e)]
      exact k _ s1
    · refine ⟨1, rfl, z, rfl, hl2, rfl, _, rfl, ?_⟩
      refine ite_f (decide_eq_false fun e => c1 (V.str.inj e)) ?_
      exact ⟨_, rfl, z, rfl, c2, k⟩
/-- the words of a line: row number i, the program's parts -/
def wordsAt (P : Parts) : List (List Str) := [[("sides" : Str), iT P.S], [("tables" : Str), iT P.T]] ++ P.rs.map fun k => ([k.1, k.2.1] ++ k.2.2).map iT
def spIsRight (K : PySem.W.Frag) : Sp := fun vs H Q _ => ∃ (a : Addr) (n : Nat) (ws : List Str), vs = [.ref a, .int (n : Int)] ∧ SqL K H a (ws.map V.str) ∧ ws.length ≤ 1000 ∧
  ((n = 0 ∧ ∃ z, ws = [("sides" : Str), z] ∧ z ∈ numW) ∨ (n = 1 ∧ ∃ z, ws = [("tables" : Str), z] ∧ z ∈ numW) ∨ (2 ≤ n ∧ 2 ≤ ws.length ∧ ∀ z ∈ ws, z ∈ numW)) ∧ ∀ H', Same H H' → Q (.bl true) H'
theorem sc_is_right : FnScope ["words", "number", "word"] ["words", "number"] (defScope s_is_right) := ⟨rfl, rfl, rfl, by decide +kernel, rfl, by decide +kernel, by decide +kernel⟩
theorem str_at' {ns : List Str} {i : Nat} {x : V} (h : (ns.map V.str)[i]? = some x) : ∃ z, ns[i]? = some z ∧ x = .str z := by
  rw [List.getElem?_map] at h
  cases e : ns[i]? with
  | none => rw [e] at h; cases h
  | some z => rw [e] at h; exact ⟨z, rfl, (Option.some.inj h).symm⟩
theorem c_is_right (T : Txt w K mg) : Cal w K mg base CX0 3 "is_right" (He.ga K "is_right") ["words", "number"] (spIsRight K) := by
  obtain ⟨fd, F⟩ := T.d_is_right
  obtain ⟨fd1, g1, k1, b1, G1⟩ := c_is_signed (base := base) T
  refine ⟨fd, T.g_is_right, F.kp, F.bindsN fun _ _ _ _ _ _ us hl => match us, hl with | [_, _], _ => rfl, ?_⟩
  refine F.ok sc_is_right (fun vs H Q E h => ?_) (fun cdv A outer s H vs Q E hr h => ?_)
  · obtain ⟨a, n, ws, rfl, _⟩ := h
    rfl
  · obtain ⟨a, n, ws, rfl, ha, hl, hk, k⟩ := h
    refine ⟨_, pss_cons (ps_if (pt_cmpR op_lt (pv 1) pe_int (nomark _))
        (pss_one (ps_ret (pe_and (pe_cmpR op_eq (pe_callB call_len (by rfl) T.f_len (by decide +kernel) (pa_cons (pv 0) pa_nil)) pe_int (nomark _))
          (pe_and (pe_cmpR op_eq (pe_ix ix_list (pv 0) pe_int (fun _ _ => rfl)) (pe_ix ix_tup (pe_tup (pa_cons pe_str (pa_cons pe_str pa_nil))) (pv 1) (fun _ _ => rfl)) (nomark _))
          (pe_one (pe_call G1 hr (by rfl) g1 k1 b1 .nil pass0 (pa_cons (pe_ix ix_list (pv 0) pe_int (fun _ _ => rfl)) pa_nil))))))) pss_nil)
      (pss_one (ps_ret (pe_and (pe_cmpR op_ge (pe_callB call_len (by rfl) T.f_len (by decide +kernel) (pa_cons (pv 0) pa_nil)) pe_int (nomark _))
        (pe_one (pe_callB (cr_all rfl) (by rfl) T.f_all (by decide +kernel) (pa_cons (pe_lc (own := [("word", 2)]) (g := gName 2) (tt := tYes) rfl sc_is_right.nd (pi_list (pv 0)) (blkOk_by (N := ["words", "number", "word"]) (sc := defScope s_is_right) (by decide +kernel))
          (fun _ _ _ _ _ => pg_name (i := 2) sc_is_right.nd rfl (Or.inl rfl)) (fun _ _ _ _ _ => pts_nil)
          (fun _ _ _ _ _ => pe_call G1 hr (by rfl) g1 k1 b1 .nil pass0 (pa_cons (pv 2) pa_nil))) pa_nil)))))), ?_⟩
    refine ⟨_, rfl, _, _, rfl, rfl, _, rfl, ?_⟩
    by_cases hn : (n : Int) < 2
    · refine ite_t (decide_eq_true hn) ?_
      obtain ⟨d, z, rfl, hz, hd⟩ : ∃ (d z : Str), ws = [d, z] ∧ z ∈ numW ∧ atI [V.str "sides", V.str "tables"] (n : Int) = some (V.str d) := by
        rcases hk with ⟨rfl, z, e, hz⟩ | ⟨rfl, z, e, hz⟩ | ⟨h0, _⟩
        · exact ⟨_, z, e, hz, rfl⟩
        · exact ⟨_, z, e, hz, rfl⟩
        · omega
      refine ⟨_, rfl, _, 2, rfl, .inl ⟨_, ha, rfl⟩, rfl, _, rfl, ?_⟩
      refine ite_t rfl ?_
      refine ⟨_, rfl, a, _, _, _, rfl, rfl, ha, atI_nat (j := 0) rfl, by show 2 ≤ sizeLine; decide, fun t ht => ?_⟩
      refine ⟨_, rfl, t, _, _, _, rfl, rfl, SqT.of upd_same, hd, rfl, _, rfl, ?_⟩
      refine ite_t (decide_eq_true rfl) ?_
      have s1 : Same H (upd H t (.tup [V.str "sides", V.str "tables"])) := Same.new (Same.refl _) ht
      refine ⟨_, rfl, a, _, _, _, rfl, rfl, Same.seq s1 ha, atI_nat (j := 1) rfl, z, rfl, hz, fun H' s2 => k _ (Same.trans s1 s2)⟩
    · refine ite_f (decide_eq_false hn) ?_
      rcases hk with ⟨h0, _⟩ | ⟨h0, _⟩ | ⟨h0, h2, h3⟩
      · omega
      · omega
      refine ⟨_, rfl, _, ws.length, rfl, .inl ⟨_, ha, by simp⟩, _, _, rfl, rfl, _, rfl, ?_⟩
      refine ite_t (decide_eq_true (by omega)) ?_
      refine ⟨_, rfl, a, rfl, ⟨_, ha⟩, fun D hD => ?_⟩
      refine lc_same (walk_list (xs := ws.map V.str)) hD (List.replicate ws.length (V.bl true)) (by simp) (by simp; exact Nat.le_trans hl (by decide)) (fun H' s' => Same.seq s' ha) (fun i x y H1 H2 Q' hi s' yy hy q => ?_) (fun H' s' hD' => ?_)
      · obtain ⟨rfl, e⟩ := yy
        obtain ⟨z, hz, rfl⟩ := str_at' e
        refine ⟨rfl, _, rfl, z, rfl, h3 z (List.mem_of_getElem? hz), ?_⟩
        rw [← rep_at hy]
        exact q
      · refine ⟨_, List.replicate ws.length true, rfl, .of (by rw [List.map_replicate]; exact hD'), ?_⟩
        rw [rep_all]
        exact k _ s'
end
end L2.Dk
set_option Elab.async false
set_option linter.all false
set_option maxRecDepth 100000
set_option maxHeartbeats 4000000
/-! Texts: plain facts. -/
namespace L2.Dk
open PySem PySem.Spec PyProof.Rows
open TL
open PySem.StrLaws (replL replL_nil replL_hit replL_miss replace_list)
structure Parts.Tight (p : Parts) : Prop where
  s : 1 ≤ p.S ∧ p.S ≤ 2
  t : 1 ≤ p.T ∧ p.T ≤ 3
  len : p.rs.length ≤ 4
  each : ∀ k ∈ p.rs, (k.2.2.length : Int) = p.S ∧ (0 ≤ k.1 ∧ k.1 ≤ p.T - 1) ∧ (0 ≤ k.2.1 ∧ k.2.1 ≤ p.T - 1) ∧ ∀ n ∈ k.2.2, -1 ≤ n ∧ n ≤ 1
  up : p.rs.Pairwise rlt
theorem Parts.Tight.good {p : Parts} (t : p.Tight) : p.Good := by
  refine ⟨⟨t.s.1, by have := t.s.2; omega⟩, ⟨t.t.1, by have := t.t.2; omega⟩, by have := t.len; omega, fun k hk => ?_, t.up⟩
  obtain ⟨h1, h2, h3, h4⟩ := t.each k hk
  refine ⟨h1, ?_, h2, h3, fun n hn => ?_⟩
  · have := t.s.2
    omega
  · have := h4 n hn
    omega
theorem five {i : Int} (h : -1 ≤ i ∧ i ≤ 3) : i = -1 ∨ i = 0 ∨ i = 1 ∨ i = 2 ∨ i = 3 := by omega
theorem iT_mem {i : Int} (h : -1 ≤ i ∧ i ≤ 3) : iT i ∈ numW := by
  rcases five h with rfl | rfl | rfl | rfl | rfl <;> decide +kernel
theorem iT_int {i : Int} (h : -1 ≤ i ∧ i ≤ 3) : intText? (iT i) = some i := by
  rcases five h with rfl | rfl | rfl | rfl | rfl <;> decide +kernel
theorem iT_log {i : Int} (h : -1 ≤ i ∧ i ≤ 3) : i.natAbs.log2 < 1920 := by
  rcases five h with rfl | rfl | rfl | rfl | rfl <;> decide +kernel
/-- a word: short, without a blank, a line's end or a bar -/
def wordB (z : Str) : Bool := decide (z.length ≤ 6) && (decide (z ≠ Str.empty) && (decide (32 ∉ tl z) && (decide (10 ∉ tl z) && decide (124 ∉ tl z))))
structure Word (z : Str) : Prop where
  len : z.length ≤ 6
  ne : z ≠ Str.empty
  b32 : 32 ∉ tl z
  b10 : 10 ∉ tl z
  b124 : 124 ∉ tl z
theorem Word.of {z : Str} (h : wordB z = true) : Word z := by
  unfold wordB at h
  simp only [Bool.and_eq_true, decide_eq_true_eq] at h
  exact ⟨h.1, h.2.1, h.2.2.1, h.2.2.2.1, h.2.2.2.2⟩
theorem numW_word {z : Str} (h : z ∈ numW) : Word z := by
  have h2 : z = "0" ∨ z = "1" ∨ z = "2" ∨ z = "3" ∨ z = "-1" := by simpa [numW] using h
  rcases h2 with rfl | rfl | rfl | rfl | rfl <;> exact Word.of (by decide +kernel)
theorem sides_word : Word "sides" := Word.of (by decide +kernel)
theorem tables_word : Word "tables" := Word.of (by decide +kernel)
/-- a line's words -/
structure Words (ws : List Str) : Prop where
  ne : ws ≠ []
  len : ws.length ≤ 4
  each : ∀ z ∈ ws, Word z
theorem rd_small {p : Parts} (t : p.Tight) {k : Rd} (hk : k ∈ p.rs) {i : Int} (hi : i ∈ [k.1, k.2.1] ++ k.2.2) : -1 ≤ i ∧ i ≤ 3 := by
  obtain ⟨h1, h2, h3, h4⟩ := t.each k hk
  have := t.t.2
  rcases List.mem_append.mp hi with h | h
  · rcases List.mem_cons.mp h with rfl | h
    · omega
    · rcases List.mem_cons.mp h with rfl | h
      · omega
      · cases h
  · have := h4 i h
    omega
theorem wordsAt_rd {p : Parts} (t : p.Tight) {k : Rd} (hk : k ∈ p.rs) : Words (([k.1, k.2.1] ++ k.2.2).map iT) := by
  obtain ⟨h1, h2, h3, h4⟩ := t.each k hk
  refine ⟨by simp, ?_, fun z hz => ?_⟩
  · have := t.s.2
    rw [List.length_map, List.length_append]
    show 2 + k.2.2.length ≤ 4
    omega
  · obtain ⟨i, hi, rfl⟩ := List.mem_map.mp hz
    exact numW_word (iT_mem (rd_small t hk hi))
theorem wordsAt_ok {p : Parts} (t : p.Tight) : ∀ ws ∈ wordsAt p, Words ws := by
  intro ws h
  unfold wordsAt at h
  rcases List.mem_append.mp h with h | h
  · rcases List.mem_cons.mp h with rfl | h
    · refine ⟨by simp, by simp, fun z hz => ?_⟩
      rcases List.mem_cons.mp hz with rfl | hz
      · exact sides_word
      · rcases List.mem_cons.mp hz with rfl | hz
        · exact numW_word (iT_mem (by have := t.s; omega))
        · cases hz
    · rcases List.mem_cons.mp h with rfl | h
      · refine ⟨by simp, by simp, fun z hz => ?_⟩
        rcases List.mem_cons.mp hz with rfl | hz
        · exact tables_word
        · rcases List.mem_cons.mp hz with rfl | hz
          · exact numW_word (iT_mem (by have := t.t; omega))
          · cases hz
      · cases h
  · obtain ⟨k, hk, rfl⟩ := List.mem_map.mp h
    exact wordsAt_rd t hk
theorem wordsAt_len {p : Parts} (t : p.Tight) : (wordsAt p).length ≤ 6 := by
  unfold wordsAt
  rw [List.length_append, List.length_map]
  have := t.len
  show 2 + _ ≤ 6
  omega
/-! ### lines -/
def lineOf (ws : List Str) : Str := Txt.join " " ws
def linesAt (p : Parts) : List Str := (wordsAt p).map lineOf
theorem mem_joinL {c : Nat} {S : List Nat} : ∀ {ps : List (List Nat)}, c ∈ joinL S ps → c ∈ S ∨ ∃ q ∈ ps, c ∈ q
  | [], h => by cases h
  | [q], h => .inr ⟨q, List.mem_cons_self .., h⟩
  | q :: r :: s, h => by
    rcases List.mem_append.mp h with h | h
    · exact .inr ⟨q, List.mem_cons_self .., h⟩
    · rcases List.mem_append.mp h with h | h
      · exact .inl h
      · rcases mem_joinL h with h | ⟨q2, h1, h2⟩
        · exact .inl h
        · exact .inr ⟨q2, List.mem_cons_of_mem _ h1, h2⟩
theorem len_joinL {S : List Nat} {m : Nat} : ∀ {ps : List (List Nat)}, (∀ q ∈ ps, q.length ≤ m) → (joinL S ps).length ≤ ps.length * (m + S.length)
  | [], _ => by simp [joinL]
  | [q], h => by
    have := h q (List.mem_cons_self ..)
    show q.length ≤ 1 * _
    omega
  | q :: r :: s, h => by
    have h1 := h q (List.mem_cons_self ..)
    have h2 := len_joinL (S := S) (ps := r :: s) fun x hx => h x (List.mem_cons_of_mem _ hx)
    show (q ++ (S ++ joinL S (r :: s))).length ≤ _
    rw [List.length_append, List.length_append, List.length_cons (a := q), Nat.add_mul]
    omega
theorem tl_line (ws : List Str) : tl (lineOf ws) = joinL [32] (ws.map tl) := by
  unfold lineOf
  rw [join_eq, tl_join]
  rfl
theorem line_split {ws : List Str} (h : Words ws) : Txt.split (lineOf ws) " " = ws := by
  unfold lineOf
  exact split_join (y := " ") (s := 32) (S := []) (by decide +kernel) (by decide +kernel) h.ne fun p hp => (h.each p hp).b32
theorem line_free {ws : List Str} (h : Words ws) {c : Nat} (hc : c ≠ 32) (hw : ∀ z ∈ ws, c ∉ tl z) : c ∉ tl (lineOf ws) := by
  rw [tl_line]
  intro hm
  rcases mem_joinL hm with h1 | ⟨q, h1, h2⟩
  · rcases List.mem_cons.mp h1 with h1 | h1
    · exact hc h1
    · cases h1
  · obtain ⟨z, hz, rfl⟩ := List.mem_map.mp h1
    exact hw z hz h2
theorem line_len {ws : List Str} (h : Words ws) : (lineOf ws).length ≤ 28 := by
  rw [len_tl, tl_line]
  have := len_joinL (S := [32]) (m := 6) (ps := ws.map tl) fun q hq => by
    obtain ⟨z, hz, rfl⟩ := List.mem_map.mp hq
    rw [← len_tl]
    exact (h.each z hz).len
  rw [List.length_map] at this
  have h2 := h.len
  have : ws.length * (6 + [32].length) ≤ 4 * 7 := Nat.mul_le_mul h2 (Nat.le_refl _)
  omega
/-! ### the whole text -/
def prgT (p : Parts) : Str := Txt.join "" ((linesAt p).map (· ++ "\n"))
def flat10 (ls : List Str) : List Nat := (ls.map fun l => tl l ++ [10]).flatten
theorem joinL_nil : ∀ ps : List (List Nat), joinL [] ps = ps.flatten
  | [] => rfl
  | [q] => by show q = [q].flatten; simp
  | q :: r :: s => by
    show q ++ ([] ++ joinL [] (r :: s)) = _
    rw [joinL_nil (r :: s)]
    rfl
theorem joinL_end : ∀ ls : List Str, joinL [10] (ls.map tl ++ [[]]) = flat10 ls
  | [] => rfl
  | [l] => by
    show tl l ++ ([10] ++ []) = (tl l ++ [10]) ++ []
    simp
  | l :: m :: r => by
    have := joinL_end (m :: r)
    show tl l ++ ([10] ++ joinL [10] ((m :: r).map tl ++ [[]])) = (tl l ++ [10]) ++ flat10 (m :: r)
    rw [this]
    simp
theorem tl_glue (ls : List Str) : tl (Txt.join "" (ls.map (· ++ "\n"))) = flat10 ls := by
  rw [join_eq, tl_join]
  have e : tl ("" : Str) = [] := by decide +kernel
  rw [e, joinL_nil, List.map_map]
  unfold flat10
  congr 1
  refine List.map_congr_left fun l _ => ?_
  show tl (l ++ "\n") = _
  rw [tl_append]
  rfl
theorem tl_prg (p : Parts) : tl (prgT p) = flat10 (linesAt p) := tl_glue _
theorem glue_split {ls : List Str} (h : ∀ l ∈ ls, 10 ∉ tl l) : Txt.split (Txt.join "" (ls.map (· ++ "\n"))) "\n" = ls ++ [Str.empty] := by
  have e : Txt.join "" (ls.map (· ++ "\n")) = Txt.join "\n" (ls ++ [Str.empty]) := by
    refine ext_tl ?_
    rw [tl_glue, join_eq, tl_join, List.map_append]
    exact (joinL_end ls).symm
  rw [e]
  refine split_join (y := "\n") (s := 10) (S := []) (by decide +kernel) (by decide +kernel) (by simp) fun q hq => ?_
  rcases List.mem_append.mp hq with hq | hq
  · exact h q hq
  · rcases List.mem_cons.mp hq with rfl | hq
    · intro hm
      cases hm
    · cases hq
theorem linesAt_free {p : Parts} (t : p.Tight) : ∀ l ∈ linesAt p, 10 ∉ tl l ∧ 124 ∉ tl l ∧ l.length ≤ 28 := by
  intro l hl
  obtain ⟨ws, hw, rfl⟩ := List.mem_map.mp hl
  have W := wordsAt_ok t ws hw
  exact ⟨line_free W (by decide) fun z hz => (W.each z hz).b10, line_free W (by decide) fun z hz => (W.each z hz).b124, line_len W⟩
theorem prg_split {p : Parts} (t : p.Tight) : Txt.split (prgT p) "\n" = linesAt p ++ [Str.empty] := glue_split fun l hl => (linesAt_free t l hl).1
theorem len_flat10 {m : Nat} : ∀ {ls : List Str}, (∀ l ∈ ls, l.length ≤ m) → (flat10 ls).length ≤ ls.length * (m + 1)
  | [], _ => by simp [flat10]
  | l :: r, h => by
    have h1 := h l (List.mem_cons_self ..)
    have h2 := len_flat10 (ls := r) fun x hx => h x (List.mem_cons_of_mem _ hx)
    show ((tl l ++ [10]) ++ flat10 r).length ≤ (r.length + 1) * (m + 1)
    rw [List.length_append, List.length_append, ← len_tl, Nat.add_mul]
    show l.length + 1 + _ ≤ _
    omega
theorem linesAt_len {p : Parts} (t : p.Tight) : (linesAt p).length ≤ 6 := by
  unfold linesAt
  rw [List.length_map]
  exact wordsAt_len t
theorem prg_len {p : Parts} (t : p.Tight) : (prgT p).length ≤ 174 := by
  rw [len_tl, tl_prg]
  have h1 := len_flat10 (m := 28) (ls := linesAt p) fun l hl => (linesAt_free t l hl).2.2
  have h2 : (linesAt p).length * (28 + 1) ≤ 6 * 29 := Nat.mul_le_mul (linesAt_len t) (Nat.le_refl _)
  omega
theorem prg_ne (p : Parts) : tl (prgT p) ≠ [] := by
  rw [tl_prg]
  show (tl (lineOf [("sides" : Str), iT p.S]) ++ [10]) ++ _ ≠ []
  simp
theorem prg_bar {p : Parts} (t : p.Tight) : 124 ∉ tl (prgT p) := by
  rw [tl_prg]
  intro h
  obtain ⟨q, hq, hm⟩ := List.mem_flatten.mp h
  obtain ⟨l, hl, rfl⟩ := List.mem_map.mp hq
  rcases List.mem_append.mp hm with hm | hm
  · exact (linesAt_free t l hl).2.1 hm
  · rcases List.mem_cons.mp hm with hm | hm
    · cases hm
    · cases hm
/-! ### one sign for another -/
theorem repl_one (a b : Nat) : ∀ l : List Nat, replL [a] [b] l = l.map fun c => if c = a then b else c
  | [] => replL_nil
  | c :: r => by
    by_cases h : c = a
    · subst h
      rw [replL_hit (by simp) (by simp)]
      show [b] ++ replL [c] [b] r = _
      rw [repl_one c b r, List.map_cons, if_pos rfl]
      rfl
    · rw [replL_miss (by simpa using h), repl_one a b r, List.map_cons, if_neg h]
theorem repl_back (a b : Nat) : ∀ l : List Nat, b ∉ l → ((l.map fun c => if c = a then b else c).map fun c => if c = b then a else c) = l
  | [], _ => rfl
  | c :: r, h => by
    have h1 : c ≠ b := fun e => h (by rw [e]; exact List.mem_cons_self ..)
    have h2 : b ∉ r := fun e => h (List.mem_cons_of_mem _ e)
    rw [List.map_cons, List.map_cons, repl_back a b r h2]
    by_cases e : c = a
    · rw [if_pos e, if_pos rfl, e]
    · rw [if_neg e, if_neg h1]
def barT (p : Parts) : Str := Txt.replace (prgT p) "\n" "|"
theorem tl_bar (p : Parts) : tl (barT p) = (tl (prgT p)).map fun c => if c = 10 then 124 else c := by
  have h := replace_list (x := prgT p) (y := "\n") (z := "|") (by decide +kernel)
  have e1 : ("\n" : Str).cps.toList = [10] := by decide +kernel
  have e2 : ("|" : Str).cps.toList = [124] := by decide +kernel
  rw [e1, e2, repl_one] at h
  exact h
theorem bar_back {p : Parts} (t : p.Tight) : Txt.replace (barT p) "|" "\n" = prgT p := by
  refine ext_tl ?_
  have h := replace_list (x := barT p) (y := "|") (z := "\n") (by decide +kernel)
  have e1 : ("\n" : Str).cps.toList = [10] := by decide +kernel
  have e2 : ("|" : Str).cps.toList = [124] := by decide +kernel
  have e3 : (barT p).cps.toList = tl (barT p) := rfl
  rw [e1, e2, repl_one, e3, tl_bar, repl_back 10 124 _ (prg_bar t)] at h
  exact h
theorem bar_free (p : Parts) : 10 ∉ tl (barT p) := by
  rw [tl_bar]
  intro h
  obtain ⟨c, _, e⟩ := List.mem_map.mp h
  by_cases hc : c = 10
  · rw [if_pos hc] at e
    cases e
  · rw [if_neg hc] at e
    exact hc e
theorem bar_len {p : Parts} (t : p.Tight) : (barT p).length ≤ 174 := by
  rw [len_tl, tl_bar, List.length_map, ← len_tl]
  exact prg_len t
theorem bar_ne (p : Parts) : barT p ≠ Str.empty := by
  intro e
  have h := tl_bar p
  rw [e] at h
  have h2 : (tl (prgT p)).map (fun c => if c = 10 then 124 else c) = [] := h.symm
  exact prg_ne p (List.map_eq_nil_iff.mp h2)
end L2.Dk
set_option Elab.async false
set_option linter.all false
set_option maxRecDepth 100000
set_option maxHeartbeats 4000000
/-! program_text. -/
namespace L2.Dk
open PySem PySem.Spec PyProof.Rows
open TL
theorem fst_line {d : Str} {i : Int} : (Str.empty ++ d ++ (" " : Str)) ++ iT i = lineOf [d, iT i] := by
  refine ext_tl ?_
  rw [tl_line, tl_append, tl_append, tl_append]
  show ([] ++ tl d ++ [32]) ++ tl (iT i) = tl d ++ ([32] ++ tl (iT i))
  simp
theorem word_len {z : Str} (h : Word z) : z.length ≤ 6 := h.len
theorem sum_le {ys : List Str} {m : Nat} (h : ∀ z ∈ ys, z.length ≤ m) : (ys.map (·.length)).sum ≤ ys.length * m := by
  induction ys with
  | nil => simp
  | cons y r ih =>
    have h1 := h y (List.mem_cons_self ..)
    have h2 := ih fun z hz => h z (List.mem_cons_of_mem _ hz)
    rw [List.map_cons, List.sum_cons, List.length_cons, Nat.add_mul]
    omega
theorem len_app (a b : Str) : (a ++ b).length = a.length + b.length := by
  rw [len_tl, tl_append, List.length_append, ← len_tl, ← len_tl]
def progF_sides (S T : Int) (r : Addr) : (progF S T r).lookup ("sides" : Str) = some (.int S) := by
  unfold progF
  rw [lookup_putF, if_neg (by decide +kernel), lookup_putF, if_neg (by decide +kernel), lookup_putF, if_pos rfl]
def progF_tables (S T : Int) (r : Addr) : (progF S T r).lookup ("tables" : Str) = some (.int T) := by
  unfold progF
  rw [lookup_putF, if_neg (by decide +kernel), lookup_putF, if_pos rfl]
def progF_readings (S T : Int) (r : Addr) : (progF S T r).lookup ("readings" : Str) = some (.ref r) := by
  unfold progF
  rw [lookup_putF, if_pos rfl]
section
variable {w : World} {K : PySem.W.Frag} {mg : Str → Option Value} {base : Heap}
def spProgText (K : PySem.W.Frag) : Sp := fun vs H Q _ => ∃ (a : Addr) (P : Parts), vs = [.ref a] ∧ P.Tight ∧ ProgAt K H a P ∧ ∀ H', Same H H' → Q (.str (prgT P)) H'
theorem sc_program_text : FnScope ["program", "rows", "reader", "read", "step", "number", "row"] ["program"] (defScope s_program_text) := ⟨rfl, rfl, rfl, by decide +kernel, rfl, by decide +kernel, by decide +kernel⟩
theorem joined_str {d : Str} {P Q : Prop} (h : P) : P := h
theorem c_program_text (T : Txt w K mg) : Cal w K mg base CX0 1 "program_text" (He.ga K "program_text") ["program"] (spProgText K) := by
  obtain ⟨fd, F⟩ := T.d_program_text
  refine ⟨fd, T.g_program_text, F.kp, F.bindsN fun _ _ _ _ _ _ us hl => match us, hl with | [_], _ => rfl, ?_⟩
  refine F.ok sc_program_text (fun vs H Q E h => ?_) (fun cdv A outer s H vs Q E hr h => ?_)
  · obtain ⟨a, P, rfl, _⟩ := h
    rfl
  · obtain ⟨a, P, rfl, t, ⟨dx, r, hp, ks, hk, ek, hks⟩, k⟩ := h
    refine ⟨_, PSs.nox (pss_cons (ps_set (i := 1) sc_program_text.nd rfl (Or.inl rfl) (pe_lst (pa_cons (pe_joined (.cons pe_str (.cons (pe_fmt (pe_fld (pv 0) rfl)) .nil))) (pa_cons (pe_joined (.cons pe_str (.cons (pe_fmt (pe_fld (pv 0) rfl)) .nil))) pa_nil))))
      (pss_cons (ps_for PassesOwn.never rfl (pi_tup (pe_fld (pv 0) rfl)) (pg_tup rfl (pgs_cons (pg_name (i := 2) sc_program_text.nd rfl (Or.inl rfl)) (pgs_cons (pg_name (i := 3) sc_program_text.nd rfl (Or.inl rfl)) (pgs_cons (pg_name (i := 4) sc_program_text.nd rfl (Or.inl rfl)) pgs_nil))))
        (pss_one (ps_expr (pe_bm PySem.F.plainAttrs_list PySem.F.slot_list_append PySem.F.type_list_append mt_append (pv 1) (pa_cons (pe_join pe_str
          (pe_lc (own := [("number", 5)]) (g := gName 5) (tt := tYes) rfl sc_program_text.nd (pi_tup (pe_op op_catT (pe_tup (pa_cons (pv 2) (pa_cons (pv 3) pa_nil))) (pv 4))) (blkOk_by (N := ["program", "rows", "reader", "read", "step", "number", "row"]) (sc := defScope s_program_text) (by decide +kernel))
            (fun _ _ _ _ _ => pg_name (i := 5) sc_program_text.nd rfl (Or.inl rfl)) (fun _ _ _ _ _ => pts_nil)
            (fun _ _ _ _ _ => pe_callTy call_str_int (by rfl) T.f_str (by decide +kernel) (pa_cons (pv 5) pa_nil)))) pa_nil)))))
      (pss_one (ps_ret (pe_join pe_str (pe_lc (own := [("row", 6)]) (g := gName 6) (tt := tYes) rfl sc_program_text.nd (pi_list (pv 1)) (blkOk_by (N := ["program", "rows", "reader", "read", "step", "number", "row"]) (sc := defScope s_program_text) (by decide +kernel))
            (fun _ _ _ _ _ => pg_name (i := 6) sc_program_text.nd rfl (Or.inl rfl)) (fun _ _ _ _ _ => pts_nil)
            (fun _ _ _ _ _ => pe_op op_add_str (pv 6) pe_str))))))), ?_⟩
    have hS : -1 ≤ P.S ∧ P.S ≤ 3 := by have := t.s; omega
    have hT : -1 ≤ P.T ∧ P.T ≤ 3 := by have := t.t; omega
    have wS := numW_word (iT_mem hS)
    have wT := numW_word (iT_mem hT)
    refine ⟨_, rfl, by show (Str.empty ++ ("sides " : Str)).length ≤ sizeLine; decide +kernel, _, rfl, a, _, dx, _, _, rfl, hp, T.cl_Program, T.no_Program_sides, progF_sides _ _ _, ?_⟩
    refine .inr ⟨_, rfl, iT_log hS, _, rfl, ?_, ?_⟩
    · rw [len_app]
      have e1 : (Str.empty ++ ("sides " : Str)).length = 6 := by decide +kernel
      have := wS.len
      have e2 : (Str.ofString (toString P.S)).length ≤ 6 := this
      rw [e1]
      exact Nat.le_trans (Nat.add_le_add_left e2 6) (by decide)
    refine ⟨_, rfl, by show (Str.empty ++ ("tables " : Str)).length ≤ sizeLine; decide +kernel, _, rfl, a, _, dx, _, _, rfl, hp, T.cl_Program, T.no_Program_tables, progF_tables _ _ _, ?_⟩
    refine .inr ⟨_, rfl, iT_log hT, _, rfl, ?_, ?_⟩
    · rw [len_app]
      have e1 : (Str.empty ++ ("tables " : Str)).length = 7 := by decide +kernel
      have := wT.len
      have e2 : (Str.ofString (toString P.T)).length ≤ 6 := this
      rw [e1]
      exact Nat.le_trans (Nat.add_le_add_left e2 7) (by decide)
    refine ⟨by show 2 ≤ sizeLine; decide, fun l hl => ?_⟩
    have el : [V.str (Str.empty ++ ("sides " : Str) ++ Str.ofString (toString P.S)), V.str (Str.empty ++ ("tables " : Str) ++ Str.ofString (toString P.T))] = ((linesAt P).take 2).map V.str := by
      have e1 : Str.empty ++ ("sides " : Str) ++ Str.ofString (toString P.S) = lineOf [("sides" : Str), iT P.S] := by
        rw [← fst_line (d := "sides")]
        have : (Str.empty ++ ("sides " : Str)) = Str.empty ++ ("sides" : Str) ++ (" " : Str) := by decide +kernel
        rw [this]
        rfl
      have e2 : Str.empty ++ ("tables " : Str) ++ Str.ofString (toString P.T) = lineOf [("tables" : Str), iT P.T] := by
        rw [← fst_line (d := "tables")]
        have : (Str.empty ++ ("tables " : Str)) = Str.empty ++ ("tables" : Str) ++ (" " : Str) := by decide +kernel
        rw [this]
        rfl
      rw [e1, e2]
      rfl
    have npl : a ≠ l := ne_of_none hp hl
    refine ⟨_, rfl, a, _, dx, _, _, rfl, Eq.trans (upd_ne npl) hp, T.cl_Program, T.no_Program_readings, progF_readings _ _ _, ?_⟩
    have hlk : ks.length = P.rs.length := by rw [← ek, List.length_map]
    have hll : (linesAt P).length = 2 + ks.length := by
      unfold linesAt wordsAt
      rw [List.length_map, List.length_append, List.length_map, hlk]
      rfl
    refine ⟨r, rfl, ⟨_, SqT.of (Eq.trans (upd_ne (ne_of_none hk hl)) hk)⟩, ?_⟩
    refine for_it (walk_tup (xs := ks.map fun q => V.ref q.1)) (fun i σ H' => ∃ v2 v3 v4, σ = [some (.ref a), some (.ref l), v2, v3, v4, none, none] ∧ Same H H' ∧ H' l = some (.lst (((linesAt P).take (2 + i)).map V.str)))
      ⟨_, _, _, rfl, Same.new (Same.refl _) hl, Eq.trans upd_same (congrArg (fun z => some (HO.lst z)) el)⟩ (fun i σ H' _ h => ?_) (fun i x σ H1 H2 hi h y => ?_) (fun σ H' h => ?_)
    · obtain ⟨_, _, _, _, s', _⟩ := h
      exact Same.tup s' (SqT.of hk)
    · obtain ⟨v2, v3, v4, rfl, s', hl'⟩ := h
      obtain ⟨rfl, e⟩ := y
      obtain ⟨q, hq, rfl⟩ := pair_at e
      obtain ⟨b, h1, h2⟩ := hks _ (List.mem_of_getElem? hq)
      have hqm : q.2 ∈ P.rs := by rw [← ek]; exact List.mem_map_of_mem (List.mem_of_getElem? hq)
      have W := wordsAt_rd t hqm
      refine ⟨q.1, _, rfl, SqT.of (s' _ _ h1), rfl, _, _, rfl, _, _, rfl, _, _, rfl, rfl, ?_⟩
      refine ⟨_, rfl, .inl ⟨rfl, _, SqL.of hl'⟩, ⟨_, rfl⟩, _, rfl, _, rfl, by show 2 ≤ sizeLine; decide, fun tp htp => ?_⟩
      have s2 := Same.new (o := HO.tup [V.int q.2.1, V.int q.2.2.1]) s' htp
      have hlen2 : q.2.2.2.length ≤ 2 := by have := (t.each _ hqm).1; have := t.s.2; omega
      have hlen1 : 1 ≤ q.2.2.2.length := by have := (t.each _ hqm).1; have := t.s.1; omega
      refine ⟨_, rfl, tp, b, _, _, rfl, rfl, SqT.of upd_same, SqT.of (s2 _ _ h2), by simp, ?_, fun e0 => ?_, fun _ tq htq => ?_⟩
      · rw [List.length_map]
        exact Nat.le_trans (Nat.add_le_add_left hlen2 2) (by decide)
      · have := List.map_eq_nil_iff.mp e0
        rw [this] at hlen1
        cases hlen1
      have s3 := Same.new (o := HO.tup ([V.int q.2.1, V.int q.2.2.1] ++ q.2.2.2.map V.int)) s2 htq
      refine ⟨tq, rfl, ⟨_, SqT.of upd_same⟩, fun D hD => ?_⟩
      have hin : [V.int q.2.1, V.int q.2.2.1] ++ q.2.2.2.map V.int = ([q.2.1, q.2.2.1] ++ q.2.2.2).map V.int := by rw [List.map_append]; rfl
      refine lc_same (walk_tup (K := K) (a := tq) (xs := ([q.2.1, q.2.2.1] ++ q.2.2.2).map V.int)) hD ((([q.2.1, q.2.2.1] ++ q.2.2.2).map iT).map V.str) (by simp) ?_ (fun H' s4 => Same.tup s4 (SqT.of (by rw [upd_same, hin]))) (fun i x y H3 H4 Q' hi' s4 yy hy qq => ?_) (fun H' s4 hD' => ?_)
      · rw [List.length_map, List.length_append]
        exact Nat.le_trans (Nat.add_le_add_left hlen2 2) (by decide)
      · obtain ⟨rfl, e4⟩ := yy
        obtain ⟨z, hz, rfl⟩ := int_at e4
        have hz2 := rd_small t hqm (List.mem_of_getElem? hz)
        refine ⟨rfl, _, rfl, z, rfl, iT_log hz2, ?_⟩
        have : V.str (iT z) = y := by
          rw [List.getElem?_map, List.getElem?_map, hz] at hy
          exact Option.some.inj hy
        rw [← this] at qq
        exact qq _ (Same.refl _)
      · refine ⟨_, D, ([q.2.1, q.2.2.1] ++ q.2.2.2).map iT, rfl, rfl, .inl (SqL.of hD'), ?_, ?_⟩
        · have h6 := sum_le (ys := ([q.2.1, q.2.2.1] ++ q.2.2.2).map iT) (m := 6) fun z hz => (W.each z hz).len
          have h7 := W.len
          have h8 : (" " : Str).length = 1 := by decide +kernel
          rw [h8]
          omega
        · have hl4 : H' l = some (.lst (((linesAt P).take (2 + i)).map V.str)) := s4 _ _ (Same.new (Same.new (Same.refl _) htp) htq _ _ hl')
          refine ⟨l, _, _, rfl, rfl, hl4, ?_, ?_⟩
          · rw [List.length_map, List.length_take]
            have := linesAt_len t
            exact Nat.lt_of_le_of_lt (Nat.min_le_right _ _) (Nat.lt_of_le_of_lt this (by decide))
          · refine ⟨_, _, _, rfl, fun c o e => ?_, ?_⟩
            · have ncl : c ≠ l := fun q => by rw [q, hl] at e; cases e
              rw [upd_ne ncl]
              exact s4 _ _ (s3 _ _ e)
            · rw [upd_same]
              have e5 : (linesAt P)[2 + i]? = some (lineOf (([q.2.1, q.2.2.1] ++ q.2.2.2).map iT)) := by
                have e6 : P.rs[i]? = some q.2 := by rw [← ek, List.getElem?_map, hq]; rfl
                unfold linesAt wordsAt
                rw [List.getElem?_map, List.getElem?_append_right (by show 2 ≤ 2 + i; omega)]
                show ((List.map _ P.rs)[2 + i - 2]?).map lineOf = _
                rw [show 2 + i - 2 = i by omega, List.getElem?_map, e6]
                rfl
              have e7 := take_snoc e5
              have e8 : ((linesAt P).take (2 + i + 1)).map V.str = ((linesAt P).take (2 + i)).map V.str ++ [V.str (lineOf (([q.2.1, q.2.2.1] ++ q.2.2.2).map iT))] := (congrArg (List.map V.str) e7).trans List.map_append
              rw [show 2 + (i + 1) = 2 + i + 1 by omega, e8]
              rfl
    · obtain ⟨v2, v3, v4, rfl, s', hl'⟩ := h
      have hl2 : H' l = some (.lst ((linesAt P).map V.str)) := by
        rw [hl', List.length_map, ← hll, List.take_length]
      refine ⟨⟨_, rfl⟩, _, rfl, l, rfl, ⟨_, SqL.of hl2⟩, fun D hD => ?_⟩
      refine lc_same (walk_list (K := K) (a := l) (xs := (linesAt P).map V.str)) hD (((linesAt P).map fun u : Str => u ++ ("\n" : Str)).map V.str) (by simp) ?_ (fun H' s4 => Same.seq s4 (SqL.of hl2)) (fun i x y H3 H4 Q' hi' s4 yy hy qq => ?_) (fun H' s4 hD' => ?_)
      · rw [List.length_map]
        exact Nat.le_trans (linesAt_len t) (by decide)
      · obtain ⟨rfl, e4⟩ := yy
        obtain ⟨z, hz, rfl⟩ := str_at' e4
        refine ⟨rfl, _, rfl, _, _, rfl, rfl, ?_, ?_⟩
        · have := (linesAt_free t z (List.mem_of_getElem? hz)).2.2
          have h8 : ("\n" : Str).length = 1 := by decide +kernel
          rw [h8]
          exact Nat.le_trans (Nat.add_le_add_right this 1) (by decide)
        · have : V.str (z ++ ("\n" : Str)) = y := by
            rw [List.getElem?_map, List.getElem?_map, hz] at hy
            exact Option.some.inj hy
          rw [← this] at qq
          exact qq _ (Same.refl _)
      · refine ⟨_, D, ((linesAt P).map fun u : Str => u ++ ("\n" : Str)), rfl, rfl, .inl (SqL.of hD'), ?_, ?_⟩
        · have h6 := sum_le (ys := ((linesAt P).map fun u : Str => u ++ ("\n" : Str))) (m := 29) fun z hz => by
            obtain ⟨u, hu, rfl⟩ := List.mem_map.mp hz
            have := (linesAt_free t u hu).2.2
            have h8 : ("\n" : Str).length = 1 := by decide +kernel
            rw [len_app, h8]
            omega
          have h7 := linesAt_len t
          have h8 : ("" : Str).length = 0 := by decide +kernel
          rw [h8]
          rw [List.length_map] at h6 ⊢
          omega
        · exact k _ (Same.trans s' s4)
end
end L2.Dk
set_option Elab.async false
set_option linter.all false
set_option maxRecDepth 100000
set_option maxHeartbeats 4000000
/-! The own errors' texts. -/
namespace L2.Dk
open PySem PySem.Spec PyProof.Rows
theorem S_NothingDone : ErrS prg s_NothingDone "NothingDone.__init__" ["self"] "nothing to take back" [] where
  body := ⟨_, _, _, _, _, _, _, _, rfl, fun env he => ⟨rfl, by unfold swapsWith; rfl⟩⟩
  self := rfl
  sup := by decide +kernel
  cls := by decide +kernel
  slf := by decide +kernel
  kind := rfl
  nocell := by decide +kernel
  co := rfl
  gen := rfl
  locs := by decide +kernel
  first := ⟨[], rfl, by decide +kernel⟩
  bind := fun kV doc pm an cd ct cc us hl => match us, hl with | [_], _ => by first | rfl | with_unfolding_all rfl
theorem S_NoLine : ErrS prg s_NoLine "NoLine.__init__" ["self"] "no line of the desk" [] where
  body := ⟨_, _, _, _, _, _, _, _, rfl, fun env he => ⟨rfl, by unfold swapsWith; rfl⟩⟩
  self := rfl
  sup := by decide +kernel
  cls := by decide +kernel
  slf := by decide +kernel
  kind := rfl
  nocell := by decide +kernel
  co := rfl
  gen := rfl
  locs := by decide +kernel
  first := ⟨[], rfl, by decide +kernel⟩
  bind := fun kV doc pm an cd ct cc us hl => match us, hl with | [_], _ => by first | rfl | with_unfolding_all rfl
theorem S_BadText : ∃ q1 q2 q3 q4, ErrS prg s_BadText "BadText.__init__" ["self", "line"] "a line that is not written so" [.Assign [.Attribute (.Name "self" q1) "line" q2] (.Name "line" q3) q4] := ⟨_, _, _, _, {
  body := ⟨_, _, _, _, _, _, _, _, rfl, fun env he => ⟨rfl, by unfold swapsWith; rfl⟩⟩
  self := rfl
  sup := by decide +kernel
  cls := by decide +kernel
  slf := by decide +kernel
  kind := rfl
  nocell := by decide +kernel
  co := rfl
  gen := rfl
  locs := by decide +kernel
  first := ⟨["line"], rfl, by decide +kernel⟩
  bind := fun kV doc pm an cd ct cc us hl => match us, hl with | [_, _], _ => by first | rfl | with_unfolding_all rfl }⟩
end L2.Dk
set_option Elab.async false
set_option linter.all false
set_option maxRecDepth 100000
set_option maxHeartbeats 4000000
/-! read_program. -/
namespace L2.Dk
open PySem PySem.Spec PyProof.Rows
open TL
theorem cut_from2 (xs : List V) : cutV xs (some 2) none = xs.drop 2 := by
  unfold cutV
  rw [show HT.sIx xs.length 0 (some 2) = min 2 xs.length from HT.sIx_nat xs.length 0 2, HT.sIx_none]
  by_cases h : 2 ≤ xs.length
  · rw [Nat.min_eq_left h]
    exact List.take_of_length_le (by rw [List.length_drop]; exact Nat.le_refl _)
  · have h2 : xs.length ≤ 2 := by omega
    rw [Nat.min_eq_right h2, List.drop_eq_nil_of_le h2, List.drop_eq_nil_of_le (Nat.le_refl xs.length), List.take_nil]
theorem cut_init (xs : List V) (x : V) : cutV (xs ++ [x]) none (some (-1)) = xs := by
  unfold cutV
  have e : HT.sIx (xs ++ [x]).length (xs ++ [x]).length (some (-1)) = xs.length := by
    show (if (-1 : Int) < 0 then ((-1 : Int) + ((xs ++ [x]).length : Int)).toNat else min (-1 : Int).toNat (xs ++ [x]).length) = _
    rw [if_pos (by decide), List.length_append]
    show ((-1 : Int) + ((xs.length + 1 : Nat) : Int)).toNat = _
    omega
  rw [e, HT.sIx_none]
  simp
theorem ne_dec {a b : Str} (h : a ≠ b) : (!decide (V.str a = V.str b)) = true := by
  rw [decide_eq_false fun e => h (V.str.inj e)]
  rfl
theorem eq_dec {a b : Str} (h : a = b) : (!decide (V.str a = V.str b)) = false := by
  rw [h, decide_eq_true rfl]
  rfl
/-- the rows that are read: lists of words, none of them the list of rows -/
def RowsAt (H : Hp) (rl : Addr) (as : List Addr) (ws : List (List Str)) : Prop := as.length = ws.length ∧ ∀ (j : Nat) (a : Addr) (u : List Str), as[j]? = some a → ws[j]? = some u → a ≠ rl ∧ H a = some (.lst (u.map V.str))
theorem RowsAt.keep {H H' : Hp} {rl : Addr} {as : List Addr} {ws : List (List Str)} (h : RowsAt H rl as ws) (k : ∀ b o, b ≠ rl → H b = some o → H' b = some o) : RowsAt H' rl as ws :=
  ⟨h.1, fun j a u h1 h2 => ⟨(h.2 j a u h1 h2).1, k _ _ (h.2 j a u h1 h2).1 (h.2 j a u h1 h2).2⟩⟩
theorem RowsAt.snoc {H : Hp} {rl : Addr} {as : List Addr} {ws : List (List Str)} {a : Addr} {u : List Str} (h : RowsAt H rl as ws) (ha : a ≠ rl) (hH : H a = some (.lst (u.map V.str))) : RowsAt H rl (as ++ [a]) (ws ++ [u]) := by
  refine ⟨by rw [List.length_append, List.length_append, h.1]; rfl, fun j b v h1 h2 => ?_⟩
  by_cases hj : j < as.length
  · rw [List.getElem?_append_left hj] at h1
    rw [List.getElem?_append_left (by rw [← h.1]; exact hj)] at h2
    exact h.2 j b v h1 h2
  · rw [List.getElem?_append_right (by omega)] at h1
    rw [List.getElem?_append_right (by rw [← h.1]; omega), ← h.1] at h2
    cases e : j - as.length with
    | zero =>
      rw [e] at h1 h2
      cases h1
      cases h2
      exact ⟨ha, hH⟩
    | succ m =>
      rw [e] at h1
      cases h1
theorem ref_at {as : List Addr} {i : Nat} {x : V} (h : (as.map V.ref)[i]? = some x) : ∃ a, as[i]? = some a ∧ x = .ref a := by
  rw [List.getElem?_map] at h
  cases e : as[i]? with
  | none => rw [e] at h; cases h
  | some z => rw [e] at h; exact ⟨z, rfl, (Option.some.inj h).symm⟩
/-- row number i is written right -/
def RightAt (i : Nat) (ws : List Str) : Prop := (i = 0 ∧ ∃ z, ws = [("sides" : Str), z] ∧ z ∈ numW) ∨ (i = 1 ∧ ∃ z, ws = [("tables" : Str), z] ∧ z ∈ numW) ∨ (2 ≤ i ∧ 2 ≤ ws.length ∧ ∀ z ∈ ws, z ∈ numW)
theorem wordsAt_right {P : Parts} (t : P.Tight) {i : Nat} {ws : List Str} (h : (wordsAt P)[i]? = some ws) : RightAt i ws := by
  unfold wordsAt at h
  match i, h with
  | 0, h =>
    cases h
    exact .inl ⟨rfl, _, rfl, iT_mem (by have := t.s; omega)⟩
  | 1, h =>
    cases h
    exact .inr (.inl ⟨rfl, _, rfl, iT_mem (by have := t.t; omega)⟩)
  | j + 2, h =>
    rw [List.getElem?_append_right (by show 2 ≤ j + 2; omega)] at h
    have h2 := List.mem_of_getElem? h
    obtain ⟨k, hk, rfl⟩ := List.mem_map.mp h2
    refine .inr (.inr ⟨by omega, ?_, fun z hz => ?_⟩)
    · rw [List.length_map, List.length_append]
      show 2 ≤ 2 + _
      omega
    · obtain ⟨i, hi, rfl⟩ := List.mem_map.mp hz
      exact iT_mem (rd_small t hk hi)
/-- what a text splits into: lines of words, and the last -/
structure Split (z : Str) (ws : List (List Str)) (last : Str) : Prop where
  eq : Txt.split z "\n" = ws.map lineOf ++ [last]
  len : z.length ≤ 1000
  many : ws.length ≤ 6
  each : ∀ u ∈ ws, Words u
  right : ∀ i u, ws[i]? = some u → RightAt i u
theorem Split.prg {P : Parts} (t : P.Tight) : Split (prgT P) (wordsAt P) Str.empty :=
  ⟨prg_split t, Nat.le_trans (prg_len t) (by decide), wordsAt_len t, wordsAt_ok t, fun i u h => wordsAt_right t h⟩
theorem x_split : Txt.split "x" "\n" = [("x" : Str)] := by decide +kernel
theorem Split.x : Split "x" [] "x" := ⟨x_split, by decide +kernel, Nat.zero_le _, (fun u h => by cases h), (fun i u h => by cases h)⟩
section
variable {w : World} {K : PySem.W.Frag} {mg : Str → Option Value} {base : Heap}
def spReadProg (K : PySem.W.Frag) : Sp := fun vs H Q E => ∃ z : Str, vs = [.str z] ∧
  ((∃ P : Parts, P.Tight ∧ z = prgT P ∧ ∀ H' a, Same H H' → ProgAt K H' a P → Q (.ref a) H') ∨
   (z = "x" ∧ ∀ H' d, Same H H' → H' d = some (.xd [("line", .int 1)]) → E (.ref (He.ga K "BadText")) (some d) H'))
theorem sc_read_program : FnScope ["text", "lines", "rows", "number", "line", "words", "readings", "numbers", "word"] ["text"] (defScope s_read_program) := ⟨rfl, rfl, rfl, by decide +kernel, rfl, by decide +kernel, by decide +kernel⟩
theorem c_read_program (T : Txt w K mg) : Cal w K mg base (L2.CX prg w) 7 "read_program" (He.ga K "read_program") ["text"] (spReadProg K) := by
  obtain ⟨fd, F⟩ := T.d_read_program
  obtain ⟨fd1, g1, k1, b1, G1⟩ := c_is_right (base := base) T
  obtain ⟨fd2, M2, b2, G2⟩ := c_Program_init (base := base) T
  obtain ⟨q1, q2, q3, q4, SB⟩ := S_BadText
  refine ⟨fd, T.g_read_program, F.kp, F.bindsN fun _ _ _ _ _ _ us hl => match us, hl with | [_], _ => rfl, ?_⟩
  refine F.ok sc_read_program (fun vs H Q E h => ?_) (fun cdv A outer s H vs Q E hr h => ?_)
  · obtain ⟨z, rfl, _⟩ := h
    rfl
  · obtain ⟨z, rfl, hcase⟩ := h
    obtain ⟨ws, last, sp, hcase⟩ : ∃ ws last, Split z ws last ∧ ((∃ P : Parts, P.Tight ∧ ws = wordsAt P ∧ last = Str.empty ∧ ∀ H' a, Same H H' → ProgAt K H' a P → Q (.ref a) H') ∨
        (ws = [] ∧ last = "x" ∧ ∀ H' d, Same H H' → H' d = some (.xd [("line", .int 1)]) → E (.ref (He.ga K "BadText")) (some d) H')) := by
      rcases hcase with ⟨P, t, rfl, k⟩ | ⟨rfl, k⟩
      · exact ⟨_, _, Split.prg t, .inl ⟨P, t, rfl, rfl, k⟩⟩
      · exact ⟨_, _, Split.x, .inr ⟨rfl, rfl, k⟩⟩
    refine ⟨_, pss_cons (ps_if (pt_not (pt_val (pe_callB call_isi (by rfl) T.f_isinstance (by decide +kernel) (pa_cons (pv 0) (pa_cons (pe_bltn (v := .ty "str") (by rfl) T.f_str (by decide +kernel) rfl) pa_nil))))) pss_never pss_nil)
      (pss_cons (ps_set (i := 1) sc_read_program.nd rfl (Or.inl rfl) (pe_split (pv 0) pe_str))
      (pss_cons (ps_set (i := 2) sc_read_program.nd rfl (Or.inl rfl) (pe_lst pa_nil))
      (pss_cons (ps_for (passes_of rfl) rfl (pi_enum (by rfl) T.f_enumerate (pa_cons (pe_slice sl_list (pv 1) po_none (po_some (pe_un un_neg pe_int))) pa_nil)) (pg_tup rfl (pgs_cons (pg_name (i := 3) sc_read_program.nd rfl (Or.inl rfl)) (pgs_cons (pg_name (i := 4) sc_read_program.nd rfl (Or.inl rfl)) pgs_nil)))
        (pss_cons (ps_set (i := 5) sc_read_program.nd rfl (Or.inl rfl) (pe_split (pv 4) pe_str))
        (pss_cons (ps_if (pt_not (pt_val (pe_call G1 (hr.mono (by decide)) (by rfl) g1 k1 b1 .nil pass0 (pa_cons (pv 5) (pa_cons (pv 3) pa_nil))))) pss_never pss_nil)
        (pss_one (ps_expr (pe_bm PySem.F.plainAttrs_list PySem.F.slot_list_append PySem.F.type_list_append mt_append (pv 2) (pa_cons (pv 5) pa_nil)))))))
      (pss_cons (ps_if (PW.pt (pw_or (pt_cmpR op_ne (pe_ix ix_list (pv 1) (pe_un un_neg pe_int) (fun _ _ => rfl)) pe_str (nomark _)) (pw_or1 (pt_cmpR op_lt (pe_callB call_len (by rfl) T.f_len (by decide +kernel) (pa_cons (pv 2) pa_nil)) pe_int (nomark _)))))
        (pss_one (ps_raise rfl (takes_of rfl rfl rfl rfl) (pmk_err1 T.er_BadText SB T.ef_BadText.1 T.g_BadText T.f_super hr (pa_cons (pe_callB call_len (by rfl) T.f_len (by decide +kernel) (pa_cons (pv 1) pa_nil)) pa_nil) (by rfl) (by decide) (by decide)))) pss_nil)
      (pss_cons (ps_set (i := 6) sc_read_program.nd rfl (Or.inl rfl) (pe_lst pa_nil))
      (pss_cons (ps_for (passes_of rfl) rfl (pi_list (pe_slice sl_list (pv 2) (po_some pe_int) po_none)) (pg_name (i := 5) sc_read_program.nd rfl (Or.inl rfl))
        (pss_cons (ps_setLc (i := 7) (own := [("word", 8)]) (g := gName 8) (tt := tYes) rfl sc_read_program.nd rfl rfl (sw_true rfl rfl rfl (by decide +kernel)) (pi_list (pv 5)) (blkOk_by (N := ["text", "lines", "rows", "number", "line", "words", "readings", "numbers", "word"]) (sc := defScope s_read_program) (by decide +kernel))
            (fun _ _ _ _ _ => pg_name (i := 8) sc_read_program.nd rfl (Or.inl rfl)) (fun _ _ _ _ _ => pts_nil)
            (fun _ _ _ _ _ => pe_callTy call_int_str (by rfl) T.f_int (by decide +kernel) (pa_cons (pv 8) pa_nil)))
        (pss_one (ps_expr (pe_bm PySem.F.plainAttrs_list PySem.F.slot_list_append PySem.F.type_list_append mt_append (pv 6) (pa_cons (pe_tup (pa_cons (pe_ix ix_list (pv 7) pe_int (fun _ _ => rfl)) (pa_cons (pe_ix ix_list (pv 7) pe_int (fun _ _ => rfl)) (pa_cons (pe_callTy call_tuple_of (by rfl) T.f_tuple (by decide +kernel) (pa_cons (pe_slice sl_list (pv 7) (po_some pe_int) po_none) pa_nil)) pa_nil)))) pa_nil))))))
      (pss_one (ps_ret (pe_make M2 G2 (hr.mono (by decide)) (by rfl) T.g_Program b2 .nil pass0 (pa_cons (pe_callTy call_int_str (by rfl) T.f_int (by decide +kernel) (pa_cons (pe_ix ix_list (pe_ix ix_list (pv 2) pe_int (fun _ _ => rfl)) pe_int (fun _ _ => rfl)) pa_nil))
        (pa_cons (pe_callTy call_int_str (by rfl) T.f_int (by decide +kernel) (pa_cons (pe_ix ix_list (pe_ix ix_list (pv 2) pe_int (fun _ _ => rfl)) pe_int (fun _ _ => rfl)) pa_nil))
        (pa_cons (pe_callTy call_tuple_of (by rfl) T.f_tuple (by decide +kernel) (pa_cons (pv 6) pa_nil)) pa_nil)))))))))))), ?_⟩
    refine ⟨_, rfl, .str z, .ty "str", _, _, true, rfl, .ty _, .base (.str _), kit_ty (by decide +kernel), true, rfl, ?_⟩
    refine ite_f rfl ?_
    refine ⟨_, rfl, ⟨_, rfl⟩, _, _, rfl, rfl, by decide +kernel, Nat.le_trans (Nat.add_le_add_right sp.len 2) (by decide), fun l hl => ?_⟩
    refine ⟨Nat.zero_le _, fun rl hrl => ?_⟩
    have nl : l ≠ rl := fun q => by rw [← q, upd_same] at hrl; cases hrl
    have hrl0 : H rl = none := by rw [upd_ne nl.symm] at hrl; exact hrl
    have s1 : Same H (upd (upd H l (.lst ((Txt.split z "\n").map V.str))) rl (.lst [])) := Same.new (Same.new (Same.refl _) hl) hrl
    have eL : (Txt.split z "\n").map V.str = (ws.map lineOf).map V.str ++ [V.str last] := by rw [sp.eq, List.map_append]; rfl
    refine ⟨_, rfl, 1, rfl, _, rfl, l, _, rfl, SqL.of (Eq.trans (upd_ne nl) upd_same), fun p hp => ?_⟩
    have np1 : l ≠ p := fun q => by rw [← q, upd_ne nl, upd_same] at hp; cases hp
    have np2 : rl ≠ p := fun q => by rw [← q, upd_same] at hp; cases hp
    have s2 := Same.new (o := HO.lst (cutV ((Txt.split z "\n").map V.str) none (some (-1)))) s1 hp
    refine ⟨p, _, rfl, SqL.of upd_same, ?_⟩
    refine for_it (walk_enum (K := K) (a := p) (xs := (ws.map lineOf).map V.str)) (fun i σ H' => ∃ v3 v4 v5 as, σ = [some (.str z), some (.ref l), some (.ref rl), v3, v4, v5, none, none, none] ∧ Same H H' ∧ H' l = some (.lst ((Txt.split z "\n").map V.str)) ∧
        H' p = some (.lst ((ws.map lineOf).map V.str)) ∧ H' rl = some (.lst (as.map V.ref)) ∧ RowsAt H' rl as (ws.take i))
      ⟨none, none, none, [], rfl, s2, ?_, ?_, ?_, rfl, fun j a u h => by cases h⟩ (fun i σ H' _ h => ?_) (fun i x σ H1 H2 hi h y => ?_) (fun σ H' h => ?_)
    · rw [upd_ne np1, upd_ne nl, upd_same]
    · rw [upd_same, eL, cut_init]
    · rw [upd_ne np2, upd_same]
      rfl
    · obtain ⟨_, _, _, _, _, _, _, h4, _⟩ := h
      exact SqL.of h4
    · obtain ⟨v3, v4, v5, as, rfl, s', h3, h4, h5, h6⟩ := h
      obtain ⟨Tp, x, y, rfl, nT, rfl, e1, e2⟩ := y
      cases e1
      obtain ⟨ln, hln, rfl⟩ := str_at' e2
      obtain ⟨u, hu, rfl⟩ : ∃ u, ws[i]? = some u ∧ ln = lineOf u := by
        rw [List.getElem?_map] at hln
        cases e : ws[i]? with
        | none => rw [e] at hln; cases hln
        | some u => rw [e] at hln; exact ⟨u, rfl, (Option.some.inj hln).symm⟩
      have W := sp.each u (List.mem_of_getElem? hu)
      refine ⟨Tp, _, rfl, SqT.of upd_same, rfl, _, _, rfl, _, _, rfl, rfl, ?_⟩
      refine ⟨_, rfl, ⟨_, rfl⟩, _, _, rfl, rfl, by decide +kernel, Nat.le_trans (Nat.add_le_add_right (line_len W) 2) (by decide), fun wl hwl => ?_⟩
      refine ⟨_, rfl, _, rfl, wl, i, u, rfl, SqL.of (by rw [upd_same, line_split W]), Nat.le_trans W.len (by decide), sp.right i u hu, fun H5 s5 => ?_⟩
      refine ⟨true, rfl, ite_f rfl ?_⟩
      have sT : Same H1 (upd H1 Tp (.tup [.int (i : Int), .str (lineOf u)])) := Same.new (Same.refl _) nT
      have s6 : Same H1 H5 := Same.trans (Same.new sT hwl) s5
      have nwl : wl ≠ rl := fun q => by
        have := sT _ _ h5
        rw [q, this] at hwl
        cases hwl
      refine ⟨_, rfl, .inl ⟨rfl, _, SqL.of (s6 _ _ h5)⟩, _, rfl, rl, _, _, rfl, rfl, s6 _ _ h5, ?_, ?_⟩
      · rw [List.length_map, h6.1, List.length_take]
        exact Nat.lt_of_le_of_lt (Nat.min_le_right _ _) (Nat.lt_of_le_of_lt sp.many (by decide))
      · refine ⟨_, _, _, as ++ [wl], rfl, fun b o e => ?_, ?_, ?_, ?_, ?_⟩
        · have nb : b ≠ rl := fun q => by rw [q, hrl0] at e; cases e
          rw [upd_ne nb]
          exact s6 _ _ (s' _ _ e)
        · rw [upd_ne nl]
          exact s6 _ _ h3
        · rw [upd_ne np2.symm]
          exact s6 _ _ h4
        · rw [upd_same, List.map_append]
          rfl
        · rw [take_snoc hu]
          refine RowsAt.snoc (RowsAt.keep h6 fun b o hb e => ?_) nwl ?_
          · rw [upd_ne hb]
            exact s6 _ _ e
          · rw [upd_ne nwl]
            exact s5 _ _ (by rw [upd_same, line_split W])
    · obtain ⟨v3, v4, v5, as, rfl, s', h3, h4, h5, h6⟩ := h
      rw [List.length_map, List.length_map, List.take_length] at h6
      refine ⟨_, rfl, 1, rfl, l, _, _, V.str last, rfl, rfl, SqL.of h3, by rw [eL]; exact atI_last _ _, rfl, _, rfl, ?_⟩
      rcases hcase with ⟨P, t, rfl, rfl, k⟩ | ⟨rfl, rfl, k⟩
      · refine ite_f (eq_dec (by decide +kernel)) ?_
        have hws : (wordsAt P).length = 2 + P.rs.length := by
          unfold wordsAt
          rw [List.length_append, List.length_map]
          rfl
        refine ⟨_, rfl, _, as.length, rfl, .inl ⟨_, SqL.of h5, by rw [List.length_map]⟩, _, _, rfl, rfl, _, rfl, ?_⟩
        refine ite_f (decide_eq_false (by rw [h6.1, hws]; omega)) ?_
        refine ⟨Nat.zero_le _, fun dl hdl => ?_⟩
        have sd : Same H' (upd H' dl (.lst [])) := Same.new (Same.refl _) hdl
        refine ⟨_, rfl, 2, rfl, rl, _, rfl, SqL.of (sd _ _ h5), fun p2 hp2 => ?_⟩
        have n2 : dl ≠ p2 := fun q => by rw [← q, upd_same] at hp2; cases hp2
        have sp2 := Same.new (o := HO.lst (cutV (as.map V.ref) (some 2) none)) sd hp2
        have hq1 : (upd (upd H' dl (.lst [])) p2 (.lst (cutV (as.map V.ref) (some 2) none))) dl = some (.lst []) := by rw [upd_ne n2, upd_same]
        refine ⟨p2, rfl, ⟨_, SqL.of upd_same⟩, ?_⟩
        rw [cut_from2] at *
        generalize hHq : (upd (upd H' dl (.lst [])) p2 (.lst ((as.map V.ref).drop 2))) = Hq at *
        have hp2q : Hq p2 = some (.lst ((as.drop 2).map V.ref)) := by rw [← hHq, upd_same, List.map_drop]
        have hlas : as.length = 2 + P.rs.length := by rw [h6.1, hws]
        refine for_it (walk_list (K := K) (a := p2) (xs := (as.drop 2).map V.ref)) (fun i σ H'' => ∃ v5 v7 ks, σ = [some (.str z), some (.ref l), some (.ref rl), v3, v4, v5, some (.ref dl), v7, none] ∧ (∀ b o, b ≠ dl → Hq b = some o → H'' b = some o) ∧
            H'' dl = some (.lst (ks.map fun q : Addr × Rd => V.ref q.1)) ∧ ks.map (·.2) = P.rs.take i ∧ ∀ q ∈ ks, RdT H'' q.1 q.2)
          ⟨v5, none, [], rfl, fun _ _ _ e => e, hq1, rfl, fun q hq => by cases hq⟩ (fun i σ H'' _ h => ?_) (fun i x σ H1 H2 hi h y => ?_) (fun σ H'' h => ?_)
        · obtain ⟨_, _, _, _, ko, _⟩ := h
          exact SqL.of (ko _ _ n2.symm hp2q)
        · obtain ⟨v5', v7, ks, rfl, ko, hd', hks, hrd⟩ := h
          obtain ⟨rfl, e⟩ := y
          obtain ⟨a, ha, rfl⟩ := ref_at e
          rw [List.getElem?_drop] at ha
          have hi2 : i < P.rs.length := by
            rw [List.length_map, List.length_drop] at hi
            omega
          obtain ⟨k', hk'⟩ : ∃ k', P.rs[i]? = some k' := ⟨P.rs[i], by simp [hi2]⟩
          have hkm := List.mem_of_getElem? hk'
          have hu : (wordsAt P)[2 + i]? = some (([k'.1, k'.2.1] ++ k'.2.2).map iT) := by
            unfold wordsAt
            rw [List.getElem?_append_right (by show 2 ≤ 2 + i; omega)]
            show (List.map _ P.rs)[2 + i - 2]? = _
            rw [show 2 + i - 2 = i by omega, List.getElem?_map, hk']
            rfl
          obtain ⟨na, hHa⟩ := h6.2 _ a _ ha hu
          have nad : a ≠ dl := ne_of_none hHa hdl
          have hHa2 : H2 a = some (.lst ((([k'.1, k'.2.1] ++ k'.2.2).map iT).map V.str)) := ko _ _ nad (sp2 _ _ hHa)
          refine ⟨_, rfl, a, rfl, ⟨_, SqL.of hHa2⟩, fun D hD => ?_⟩
          have hkl : k'.2.2.length ≤ 2 := by have := (t.each _ hkm).1; have := t.s.2; omega
          refine lc_same (walk_list (K := K) (a := a) (xs := (([k'.1, k'.2.1] ++ k'.2.2).map iT).map V.str)) hD (([k'.1, k'.2.1] ++ k'.2.2).map V.int) (by simp) ?_ (fun H3 s4 => Same.seq s4 (SqL.of hHa2)) (fun j x y H3 H4 Q' hi' s4 yy hy qq => ?_) (fun H5 s5 hD' => ?_)
          · rw [List.length_map, List.length_map, List.length_append]
            exact Nat.le_trans (Nat.add_le_add_left hkl 2) (by decide)
          · obtain ⟨rfl, e4⟩ := yy
            obtain ⟨zz, hz, rfl⟩ := str_at' e4
            obtain ⟨n, hn, rfl⟩ : ∃ n, ([k'.1, k'.2.1] ++ k'.2.2)[j]? = some n ∧ zz = iT n := by
              rw [List.getElem?_map] at hz
              cases e : ([k'.1, k'.2.1] ++ k'.2.2)[j]? with
              | none => rw [e] at hz; cases hz
              | some n => rw [e] at hz; exact ⟨n, rfl, (Option.some.inj hz).symm⟩
            have hn2 := rd_small t hkm (List.mem_of_getElem? hn)
            refine ⟨rfl, _, rfl, iT n, n, rfl, iT_int hn2, Nat.le_trans (numW_word (iT_mem hn2)).len (by decide), ?_⟩
            have : V.int n = y := by
              rw [List.getElem?_map, hn] at hy
              exact Option.some.inj hy
            rw [← this] at qq
            exact qq _ (Same.refl _)
          · refine ⟨_, rfl, .inl ⟨rfl, _, SqL.of (s5 _ _ hd')⟩, ?_⟩
            refine ⟨_, rfl, D, _, _, V.int k'.1, rfl, rfl, SqL.of hD', atI_nat (j := 0) rfl, ?_⟩
            refine ⟨_, rfl, D, _, _, V.int k'.2.1, rfl, rfl, SqL.of hD', atI_nat (j := 1) rfl, ?_⟩
            refine ⟨_, rfl, 2, rfl, D, _, rfl, SqL.of hD', fun sl hsl => ?_⟩
            rw [cut_from2]
            have ed : (([k'.1, k'.2.1] ++ k'.2.2).map V.int).drop 2 = k'.2.2.map V.int := rfl
            rw [ed]
            refine ⟨sl, _, rfl, .inl ⟨SqL.of upd_same, fun tb htb => ?_⟩⟩
            refine ⟨by show 3 ≤ sizeLine; decide, fun ta hta => ?_⟩
            have z1 : Same H2 (upd H5 sl (.lst (k'.2.2.map V.int))) := Same.new s5 hsl
            have z2 : Same H2 (upd (upd H5 sl (.lst (k'.2.2.map V.int))) tb (.tup (k'.2.2.map V.int))) := Same.new z1 htb
            have z3 : Same H2 (upd (upd (upd H5 sl (.lst (k'.2.2.map V.int))) tb (.tup (k'.2.2.map V.int))) ta (.tup [V.int k'.1, V.int k'.2.1, V.ref tb])) := Same.new z2 hta
            have ndt : ta ≠ dl := fun q => by
              rw [q, z2 _ _ hd'] at hta
              cases hta
            have nbt : tb ≠ dl := fun q => by
              rw [q, z1 _ _ hd'] at htb
              cases htb
            have ntt : tb ≠ ta := fun q => by
              rw [← q, upd_same] at hta
              cases hta
            have hlen : ks.length = i := by
              have := congrArg List.length hks
              rw [List.length_map, List.length_take] at this
              omega
            refine ⟨dl, _, _, rfl, rfl, z3 _ _ hd', ?_, ?_⟩
            · rw [List.length_map, hlen]
              have := t.len
              exact Nat.lt_of_lt_of_le hi2 (Nat.le_trans this (by decide))
            · refine ⟨_, _, ks ++ [(ta, k')], rfl, fun b o hb e => ?_, ?_, ?_, fun q hq => ?_⟩
              · rw [upd_ne hb]
                exact z3 _ _ (ko _ _ hb e)
              · rw [upd_same, List.map_append]
                rfl
              · rw [take_snoc hk', List.map_append, hks]
                rfl
              · rcases List.mem_append.mp hq with hq | hq
                · obtain ⟨bb, r1, r2⟩ := hrd q hq
                  refine ⟨bb, ?_, ?_⟩
                  · rw [upd_ne (ne_of r1 hd' (by intro z; cases z))]
                    exact z3 _ _ r1
                  · rw [upd_ne (ne_of r2 hd' (by intro z; cases z))]
                    exact z3 _ _ r2
                · cases List.mem_singleton.mp hq
                  refine ⟨tb, ?_, ?_⟩
                  · rw [upd_ne ndt, upd_same]
                  · rw [upd_ne nbt, upd_ne ntt, upd_same]
        · obtain ⟨v5', v7, ks, rfl, ko, hd', hks, hrd⟩ := h
          have hn : ((as.drop 2).map V.ref).length = P.rs.length := by rw [List.length_map, List.length_drop]; omega
          rw [hn, List.take_length] at hks
          obtain ⟨a0, ha0⟩ : ∃ a0, as[0]? = some a0 := ⟨as[0]'(by omega), by simp [show 0 < as.length by omega]⟩
          obtain ⟨a1, ha1⟩ : ∃ a1, as[1]? = some a1 := ⟨as[1]'(by omega), by simp [show 1 < as.length by omega]⟩
          obtain ⟨n0, h0⟩ := h6.2 0 a0 [("sides" : Str), iT P.S] ha0 rfl
          obtain ⟨n1, h1⟩ := h6.2 1 a1 [("tables" : Str), iT P.T] ha1 rfl
          have hs : -1 ≤ P.S ∧ P.S ≤ 3 := by have := t.s; omega
          have ht : -1 ≤ P.T ∧ P.T ≤ 3 := by have := t.t; omega
          have kq : ∀ b o, H' b = some o → H'' b = some o := fun b o e => ko _ _ (ne_of_none e hdl) (sp2 _ _ e)
          refine ⟨_, rfl, rl, _, _, V.ref a0, rfl, rfl, SqL.of (kq _ _ h5), atI_nat (j := 0) (by rw [List.getElem?_map, ha0]; rfl), a0, _, _, V.str (iT P.S), rfl, rfl, SqL.of (kq _ _ h0), atI_nat (j := 1) rfl, ?_⟩
          refine ⟨iT P.S, P.S, rfl, iT_int hs, Nat.le_trans (numW_word (iT_mem hs)).len (by decide), ?_⟩
          refine ⟨_, rfl, rl, _, _, V.ref a1, rfl, rfl, SqL.of (kq _ _ h5), atI_nat (j := 1) (by rw [List.getElem?_map, ha1]; rfl), a1, _, _, V.str (iT P.T), rfl, rfl, SqL.of (kq _ _ h1), atI_nat (j := 1) rfl, ?_⟩
          refine ⟨iT P.T, P.T, rfl, iT_int ht, Nat.le_trans (numW_word (iT_mem ht)).len (by decide), ?_⟩
          refine ⟨_, rfl, dl, _, rfl, .inl ⟨SqL.of hd', fun tr htr => ?_⟩⟩
          intro x dx nx ndx nex
          have y1 : Same H'' (upd H'' tr (.tup (ks.map fun q => V.ref q.1))) := Same.new (Same.refl _) htr
          have y2 : Same H'' (upd (upd (upd H'' tr (.tup (ks.map fun q => V.ref q.1))) dx (.own x)) x (.ins (He.ga K "Program") dx [])) := fun b o e => by
            have e1 := y1 _ _ e
            rw [upd_ne (ne_of_none e1 nx), upd_ne (ne_of_none e1 ndx)]
            exact e1
          have ntx : tr ≠ x := fun q => by rw [← q, upd_same] at nx; cases nx
          have ntd : tr ≠ dx := fun q => by rw [← q, upd_same] at ndx; cases ndx
          refine ⟨x, dx, tr, P, rfl, t.good, upd_same, ⟨ks, ?_, hks, fun q hq => RdT.same y2 (hrd q hq)⟩, fun H7 k7 hx7 => ⟨rfl, ?_⟩⟩
          · rw [upd_ne ntx, upd_ne ntd, upd_same]
          have x0 : ∀ b o, H'' b = some o → b ≠ x := fun b o e => ne_of_none (y1 _ _ e) nx
          have y3 : Same H'' H7 := fun b o e => k7 _ _ (x0 _ _ e) (y2 _ _ e)
          refine k _ x (fun b o e => y3 _ _ (kq _ _ (s' _ _ e))) ⟨dx, tr, hx7, ks, ?_, hks, fun q hq => RdT.same y3 (hrd q hq)⟩
          refine k7 _ _ ntx ?_
          rw [upd_ne ntx, upd_ne ntd, upd_same]
      · refine ite_t (ne_dec (by decide +kernel)) (ite_t rfl ?_)
        refine ⟨_, rfl, _, 1, rfl, .inl ⟨_, SqL.of h3, by rw [eL]; rfl⟩, _, rfl, fun d hd => ?_⟩
        exact k _ d (Same.new s' hd) upd_same
end
end L2.Dk
set_option Elab.async false
set_option linter.all false
set_option maxRecDepth 100000
set_option maxHeartbeats 4000000
/-! is_name, is_of_form, told_words. -/
namespace L2.Dk
open PySem PySem.Spec PyProof.Rows
open TL
def letters : List Nat := (Str.ofString "abcdefghijklmnopqrstuvwxyz").cps.toList
def nameB (z : Str) : Bool := (decide ((1 : Int) ≤ z.length) && decide ((z.length : Int) ≤ 8)) && (z.cps.toList.map fun c => decide (c ∈ letters)).all id
section
variable {w : World} {K : PySem.W.Frag} {mg : Str → Option Value} {base : Heap}
def spIsName : Sp := fun vs H Q _ => ∃ z : Str, vs = [.str z] ∧ z.length ≤ 1000 ∧ ∀ H', Same H H' → Q (.bl (nameB z)) H'
theorem sc_is_name : FnScope ["word", "sign"] ["word"] (defScope s_is_name) := ⟨rfl, rfl, rfl, by decide +kernel, rfl, by decide +kernel, by decide +kernel⟩
theorem c_is_name (T : Txt w K mg) : Cal w K mg base CX0 1 "is_name" (He.ga K "is_name") ["word"] spIsName := by
  obtain ⟨fd, F⟩ := T.d_is_name
  obtain ⟨t4, g4⟩ := T.i_MOST_NAME
  obtain ⟨t5, g5⟩ := T.t_LETTERS
  refine ⟨fd, T.g_is_name, F.kp, F.bindsN fun _ _ _ _ _ _ us hl => match us, hl with | [_], _ => rfl, ?_⟩
  refine F.ok sc_is_name (fun vs H Q E h => ?_) (fun cdv A outer s H vs Q E hr h => ?_)
  · obtain ⟨z, rfl, _⟩ := h
    rfl
  · obtain ⟨z, rfl, hz, k⟩ := h
    refine ⟨_, pss_one (ps_ret (pe_and (pe_chain op_le op_le pe_int (pe_callB call_len (by rfl) T.f_len (by decide +kernel) (pa_cons (pv 0) pa_nil)) (pe_glob (v := .int 8) (by rfl) g4 ⟨t4, rfl⟩))
        (pe_one (pe_callB (cr_all rfl) (by rfl) T.f_all (by decide +kernel) (pa_cons (pe_lc (own := [("sign", 1)]) (g := gName 1) (tt := tYes) rfl sc_is_name.nd (pi_str (pv 0)) (blkOk_by (N := ["word", "sign"]) (sc := defScope s_is_name) (by decide +kernel))
          (fun _ _ _ _ _ => pg_name (i := 1) sc_is_name.nd rfl (Or.inl rfl)) (fun _ _ _ _ _ => pts_nil)
          (fun _ _ _ _ _ => pe_cmpR op_in_sign (pv 1) (pe_glob (v := .str "abcdefghijklmnopqrstuvwxyz") (by rfl) g5 ⟨t5, rfl⟩) rfl)) pa_nil))))), ?_⟩
    refine ⟨_, rfl, _, z.length, rfl, ⟨Nat.le_trans hz (by decide), rfl⟩, _, _, rfl, rfl, _, rfl, ?_⟩
    by_cases h1 : (1 : Int) ≤ z.length
    · refine ite_t (decide_eq_true h1) ?_
      refine ⟨_, _, rfl, rfl, _, rfl, ?_⟩
      by_cases h2 : (z.length : Int) ≤ 8
      · refine ite_t (decide_eq_true h2) ?_
        refine ⟨_, rfl, _, rfl, fun D hD => ?_⟩
        refine lc_same (walk_str (z := z)) hD ((z.cps.toList.map fun c => decide (c ∈ letters)).map V.bl) (by simp) (Nat.le_trans hz (by decide)) (fun _ _ => True.intro) (fun i x y H1 H2 Q' hi s' yy hy q => ?_) (fun H' s' hD' => ?_)
        · obtain ⟨rfl, c, hc, rfl⟩ := yy
          refine ⟨rfl, _, rfl, c, _, rfl, rfl, ?_⟩
          have : V.bl (decide (c ∈ letters)) = y := by
            rw [List.getElem?_map, List.getElem?_map, Array.getElem?_toList, hc] at hy
            exact Option.some.inj hy
          have q2 := q _ (Same.refl _)
          rw [← this] at q2
          exact q2
        · refine ⟨_, _, rfl, .of hD', ?_⟩
          have k2 := k _ s'
          unfold nameB at k2
          rw [decide_eq_true h1, decide_eq_true h2] at k2
          exact k2
      · refine ite_f (decide_eq_false h2) ?_
        have k2 := k _ (Same.refl _)
        unfold nameB at k2
        rw [decide_eq_true h1, decide_eq_false h2] at k2
        exact k2
    · refine ite_f (decide_eq_false h1) ⟨_, rfl, ite_f rfl ?_⟩
      have k2 := k _ (Same.refl _)
      unfold nameB at k2
      rw [decide_eq_false h1] at k2
      exact k2
def spIsOfForm : Sp := fun vs H Q _ => ∃ z : Str, vs = [.str "n", .str z] ∧ z.length ≤ 1000 ∧ ∀ H', Same H H' → Q (.bl (nameB z)) H'
theorem sc_is_of_form : FnScope ["sign", "word"] ["sign", "word"] (defScope s_is_of_form) := ⟨rfl, rfl, rfl, by decide +kernel, rfl, by decide +kernel, by decide +kernel⟩
theorem c_is_of_form (T : Txt w K mg) : Cal w K mg base CX0 2 "is_of_form" (He.ga K "is_of_form") ["sign", "word"] spIsOfForm := by
  obtain ⟨fd, F⟩ := T.d_is_of_form
  obtain ⟨fd1, g1, k1, b1, G1⟩ := c_is_name (base := base) T
  refine ⟨fd, T.g_is_of_form, F.kp, F.bindsN fun _ _ _ _ _ _ us hl => match us, hl with | [_, _], _ => rfl, ?_⟩
  refine F.ok sc_is_of_form (fun vs H Q E h => ?_) (fun cdv A outer s H vs Q E hr h => ?_)
  · obtain ⟨z, rfl, _⟩ := h
    rfl
  · obtain ⟨z, rfl, hz, k⟩ := h
    refine ⟨_, pss_cons (ps_if (pt_cmpR op_eq (pv 0) pe_str (nomark _)) (pss_one (ps_ret (pe_call G1 hr (by rfl) g1 k1 b1 .nil pass0 (pa_cons (pv 1) pa_nil)))) pss_nil) pss_never, ?_⟩
    refine ⟨_, rfl, rfl, _, rfl, ?_⟩
    refine ite_t (decide_eq_true rfl) ?_
    exact ⟨_, rfl, z, rfl, hz, k⟩
theorem cut_from1 (xs : List V) : cutV xs (some 1) none = xs.drop 1 := by
  unfold cutV
  rw [show HT.sIx xs.length 0 (some 1) = min 1 xs.length from HT.sIx_nat xs.length 0 1, HT.sIx_none]
  by_cases h : 1 ≤ xs.length
  · rw [Nat.min_eq_left h]
    exact List.take_of_length_le (by rw [List.length_drop]; exact Nat.le_refl _)
  · have h2 : xs.length ≤ 1 := by omega
    rw [Nat.min_eq_right h2, List.drop_eq_nil_of_le h2, List.drop_eq_nil_of_le (Nat.le_refl xs.length), List.take_nil]
/-- what a line without a line's end says -/
inductive TLine (z : Str) : Option (List Str) → Prop where
  | prog (n t : Str) (r : List Str) (h1 : Txt.split z " " = ("program" : Str) :: r) (h2 : Txt.splitMax z " " 2 = [("program" : Str), n, t]) (hn : nameB n = true) (hl : n.length ≤ 1000) (ht : t ≠ "") : TLine z (some [("program" : Str), n, t])
  | noform (h : Txt.split z " " = [("" : Str)]) : TLine z none
  | bare (k : Str) (h : Txt.split z " " = [k]) (hk : k = "names" ∨ k = "undo") : TLine z (some [k])
  | bare2 (k x : Str) (h : Txt.split z " " = [k, x]) (hk : k = "names" ∨ k = "undo") : TLine z none
  | one (k n : Str) (h : Txt.split z " " = [k, n]) (hk : k = "drop" ∨ k = "show") (hl : n.length ≤ 1000) : TLine z (if nameB n = true then some [k, n] else none)
theorem form_bare {k : Str} (hk : k = "names" ∨ k = "undo") : (k, He.Dv.str ("" : Str)) ∈ forms := by
  rcases hk with rfl | rfl
  · exact List.mem_of_getElem? (i := 2) rfl
  · exact List.mem_of_getElem? (i := 3) rfl
theorem form_one {k : Str} (hk : k = "drop" ∨ k = "show") : (k, He.Dv.str ("n" : Str)) ∈ forms := by
  rcases hk with rfl | rfl
  · exact List.mem_of_getElem? (i := 0) rfl
  · exact List.mem_of_getElem? (i := 1) rfl
theorem form_at (T : Txt w K mg) {k f : Str} (h : (k, He.Dv.str f) ∈ forms) : ∃ u, PySem.W.nsIn K (He.ga K "FORMS") k = some (some u) ∧ RelV (.str f) u := He.valsB_ok T.forms_v h
theorem nl_eq : V.str ("\n" : Str) = V.str ⟨#[10]⟩ := congrArg V.str (by decide +kernel)
def spTold (K : PySem.W.Frag) : Sp := fun vs H Q E => ∃ (z : Str) (r : Option (List Str)), vs = [.str z] ∧ TLine z r ∧ 10 ∉ tl z ∧ z.length ≤ 1000 ∧ (∀ ws, r = some ws → ∀ H' a, Same H H' → H a = none → H' a = some (.lst (ws.map V.str)) → Q (.ref a) H') ∧
  (r = none → ∀ H', Same H H' → E (.ref (He.ga K "NoLine")) none H')
theorem sc_told_words : FnScope ["line", "words", "form", "sign", "word"] ["line"] (defScope s_told_words) := ⟨rfl, rfl, rfl, by decide +kernel, rfl, by decide +kernel, by decide +kernel⟩
theorem c_told_words (T : Txt w K mg) : Cal w K mg base (L2.CX prg w) 4 "told_words" (He.ga K "told_words") ["line"] (spTold K) := by
  obtain ⟨fd, F⟩ := T.d_told_words
  obtain ⟨fd1, g1, k1, b1, G1⟩ := c_is_name (base := base) T
  obtain ⟨fd2, g2, k2, b2, G2⟩ := c_is_of_form (base := base) T
  obtain ⟨es, n, D⟩ := T.forms_d
  refine ⟨fd, T.g_told_words, F.kp, F.bindsN fun _ _ _ _ _ _ us hl => match us, hl with | [_], _ => rfl, ?_⟩
  refine F.ok sc_told_words (fun vs H Q E h => ?_) (fun cdv A outer s H vs Q E hr h => ?_)
  · obtain ⟨z, r, rfl, _⟩ := h
    rfl
  · obtain ⟨z, r, rfl, hT, hnl, hz, kq, ke⟩ := h
    have hz2 : z.length + 2 ≤ sizeLine := Nat.le_trans (Nat.add_le_add_right hz 2) (by decide)
    refine ⟨_, pss_cons (ps_if (PW.pt (pw_or (pt_not (pt_val (pe_callB call_isi (by rfl) T.f_isinstance (by decide +kernel) (pa_cons (pv 0) (pa_cons (pe_bltn (v := .ty "str") (by rfl) T.f_str (by decide +kernel) rfl) pa_nil)))))
        (pw_or1 (pt_cmpR op_in_sign pe_str (pv 0) rfl)))) pss_never pss_nil)
      (pss_cons (ps_set (i := 1) sc_told_words.nd rfl (Or.inl rfl) (pe_split (pv 0) pe_str))
      (pss_cons (ps_if (pt_cmpR op_eq (pe_ix ix_list (pv 1) pe_int (fun _ _ => rfl)) pe_str (nomark _))
        (pss_cons (ps_set (i := 1) sc_told_words.nd rfl (Or.inl rfl) (pe_bm PySem.F.plainAttrs_str PySem.F.slot_str_split PySem.F.type_str_split mt_splitMax (pv 0) (pa_cons pe_str (pa_cons pe_int pa_nil))))
        (pss_cons (ps_if (PW.pt (pw_or (pt_cmpR op_lt (pe_callB call_len (by rfl) T.f_len (by decide +kernel) (pa_cons (pv 1) pa_nil)) pe_int (nomark _))
            (pw_or (pt_not (pt_val (pe_call G1 (hr.mono (by decide)) (by rfl) g1 k1 b1 .nil pass0 (pa_cons (pe_ix ix_list (pv 1) pe_int (fun _ _ => rfl)) pa_nil))))
            (pw_or1 (pt_cmpR op_eq (pe_ix ix_list (pv 1) pe_int (fun _ _ => rfl)) pe_str (nomark _)))))) pss_never pss_nil)
        (pss_one (ps_ret (pv 1))))) pss_nil)
      (pss_cons (ps_set (i := 2) sc_told_words.nd rfl (Or.inl rfl) (pe_kget D (pe_glob (v := .ref (He.ga K "FORMS")) (by rfl) T.g_FORMS rfl) (pe_ix ix_list (pv 1) pe_int (fun _ _ => rfl)) ⟨rfl, rfl, rfl, rfl⟩))
      (pss_cons (ps_if (PW.pt (pw_or (pt_cmpR op_isN (pv 2) pe_non (nomark _)) (pw_or1 (pt_cmpR op_ne (pe_callB call_len (by rfl) T.f_len (by decide +kernel) (pa_cons (pv 1) pa_nil)) (pe_op op_add (pe_callB call_len (by rfl) T.f_len (by decide +kernel) (pa_cons (pv 2) pa_nil)) pe_int) (nomark _)))))
        (pss_one (ps_raise rfl (takes_of rfl rfl rfl rfl) (pmk_err0 T.er_NoLine S_NoLine T.g_NoLine T.f_super hr (by rfl)))) pss_nil)
      (pss_cons (ps_if (pt_not (pt_val (pe_callB (cr_all rfl) (by rfl) T.f_all (by decide +kernel) (pa_cons (pe_lc (own := [("sign", 3), ("word", 4)]) (g := gTup K 2 (gCons (gName 3) (gCons (gName 4) gNil))) (tt := tYes) rfl sc_told_words.nd (pi_zipS (by rfl) T.f_zip (pa_cons (pv 2) (pa_cons (pe_slice sl_list (pv 1) (po_some pe_int) po_none) pa_nil)))
          (blkOk_by (N := ["line", "words", "form", "sign", "word"]) (sc := defScope s_told_words) (by decide +kernel))
          (fun _ _ _ _ _ => pg_tup rfl (pgs_cons (pg_name (i := 3) sc_told_words.nd rfl (Or.inl rfl)) (pgs_cons (pg_name (i := 4) sc_told_words.nd rfl (Or.inl rfl)) pgs_nil))) (fun _ _ _ _ _ => pts_nil)
          (fun _ _ _ _ _ => pe_call G2 (hr.mono (by decide)) (by rfl) g2 k2 b2 .nil pass0 (pa_cons (pv 3) (pa_cons (pv 4) pa_nil)))) pa_nil))))
        (pss_one (ps_raise rfl (takes_of rfl rfl rfl rfl) (pmk_err0 T.er_NoLine S_NoLine T.g_NoLine T.f_super hr (by rfl)))) pss_nil)
      (pss_one (ps_ret (pv 1)))))))), ?_⟩
    refine ⟨_, rfl, .str z, .ty "str", _, _, true, rfl, .ty _, .base (.str _), kit_ty (by decide +kernel), true, rfl, ?_⟩
    refine ite_f rfl ?_
    refine ⟨_, rfl, 10, z, nl_eq, rfl, _, rfl, ?_⟩
    refine ite_f (decide_eq_false hnl) ?_
    refine ⟨_, rfl, ⟨_, rfl⟩, _, _, rfl, rfl, by decide +kernel, hz2, fun l hl => ?_⟩
    have s1 : Same H (upd H l (.lst ((Txt.split z " ").map V.str))) := Same.new (Same.refl _) hl
    have hl1 : (upd H l (.lst ((Txt.split z " ").map V.str))) l = some (.lst ((Txt.split z " ").map V.str)) := upd_same
    generalize (upd H l (.lst ((Txt.split z " ").map V.str))) = H1 at *
    have look : ∀ (ws : List Str) (i : Nat) (x : Str), Txt.split z " " = ws → ws[i]? = some x → atI ((Txt.split z " ").map V.str) (i : Int) = some (V.str x) := fun ws i x e h => atI_nat (by rw [e, List.getElem?_map, h]; rfl)
    cases hT with
    | prog n t r h1 h2 hn hl0 ht =>
      refine ⟨_, rfl, l, _, _, V.str "program", rfl, rfl, SqL.of hl1, look _ 0 _ h1 rfl, rfl, _, rfl, ?_⟩
      refine ite_t (decide_eq_true rfl) ?_
      refine ⟨_, rfl, rfl, _, _, _, rfl, rfl, by decide +kernel, by decide, by decide, hz2, fun l2 hl2 => ?_⟩
      have e2 : (upd H1 l2 (.lst ((Txt.splitMax z " " 2).map V.str))) l2 = some (.lst ([("program" : Str), n, t].map V.str)) := by rw [upd_same, h2]
      have s2 : Same H1 (upd H1 l2 (.lst ((Txt.splitMax z " " 2).map V.str))) := Same.new (Same.refl _) hl2
      generalize (upd H1 l2 (.lst ((Txt.splitMax z " " 2).map V.str))) = H2 at *
      refine ⟨_, rfl, _, 3, rfl, .inl ⟨_, SqL.of e2, rfl⟩, _, _, rfl, rfl, _, rfl, ?_⟩
      refine ite_f rfl ?_
      refine ⟨_, rfl, l2, _, _, V.str n, rfl, rfl, SqL.of e2, atI_nat (j := 1) rfl, n, rfl, hl0, fun H3 s3 => ⟨true, by rw [hn], ?_⟩⟩
      refine ite_f rfl ?_
      refine ⟨_, rfl, l2, _, _, V.str t, rfl, rfl, SqL.of (s3 _ _ e2), atI_nat (j := 2) rfl, rfl, _, rfl, ?_⟩
      refine ite_f (decide_eq_false fun e => ht (V.str.inj e)) ?_
      have hl2' : H l2 = none := Same.free s1 hl2
      exact ⟨_, rfl, kq _ rfl H3 l2 (Same.trans s1 (Same.trans s2 s3)) hl2' (s3 _ _ e2)⟩
    | noform h =>
      refine ⟨_, rfl, l, _, _, V.str "", rfl, rfl, SqL.of hl1, look _ 0 _ h rfl, rfl, _, rfl, ?_⟩
      refine ite_f (by decide +kernel) ?_
      refine ⟨rfl, _, rfl, l, _, _, V.str "", rfl, rfl, SqL.of hl1, look _ 0 _ h rfl, "", none, .non, rfl, T.forms_e, rfl, ?_⟩
      refine ⟨_, rfl, rfl, _, rfl, ?_⟩
      refine ite_t (decide_eq_true rfl) (ite_t rfl ?_)
      exact ke rfl _ s1
    | bare k h hk =>
      have hp : k ≠ "program" := by rcases hk with rfl | rfl <;> decide +kernel
      obtain ⟨u, hu, ru⟩ := form_at T (k := k) (f := "") (form_bare hk)
      refine ⟨_, rfl, l, _, _, V.str k, rfl, rfl, SqL.of hl1, look _ 0 _ h rfl, rfl, _, rfl, ?_⟩
      refine ite_f (decide_eq_false fun e => hp (V.str.inj e)) ?_
      refine ⟨rfl, _, rfl, l, _, _, V.str k, rfl, rfl, SqL.of hl1, look _ 0 _ h rfl, k, some u, .str "", rfl, hu, ru, ?_⟩
      refine ⟨_, rfl, rfl, _, rfl, ?_⟩
      refine ite_f (decide_eq_false (by intro e; cases e)) ?_
      refine ⟨_, rfl, _, 1, rfl, .inl ⟨_, SqL.of hl1, by rw [h]; rfl⟩, _, rfl, _, 0, rfl, ⟨by decide +kernel, by decide +kernel⟩, _, _, rfl, rfl, rfl, _, rfl, ?_⟩
      refine ite_f (by decide) ?_
      refine ⟨_, rfl, _, rfl, 1, rfl, l, _, rfl, SqL.of hl1, fun wl hwl => ?_⟩
      have ew : (upd H1 wl (.lst (cutV ((Txt.split z " ").map V.str) (some 1) none))) wl = some (.lst []) := by
        rw [upd_same, cut_from1, h]
        rfl
      have s2 : Same H1 (upd H1 wl (.lst (cutV ((Txt.split z " ").map V.str) (some 1) none))) := Same.new (Same.refl _) hwl
      generalize (upd H1 wl (.lst (cutV ((Txt.split z " ").map V.str) (some 1) none))) = H2 at *
      refine ⟨"", wl, _, rfl, SqL.of ew, fun Dd hD => ?_⟩
      refine lc_same (walk_zipS (K := K) (x := "") (b := wl) (ys := [])) hD [] rfl (Nat.zero_le _) (fun H' s' => Same.seq s' (SqL.of ew)) (fun i x y H3 H4 Q' hi s' yy hy q => ?_) (fun H' s' hD' => ?_)
      · cases hy
      · refine ⟨_, [], rfl, .of hD', true, rfl, ite_f rfl ?_⟩
        have hl' : H l = none := hl
        exact ⟨_, rfl, kq _ rfl H' l (Same.trans s1 (Same.trans s2 s')) hl' (s' _ _ (s2 _ _ (by rw [hl1, h])))⟩
    | bare2 k x h hk =>
      have hp : k ≠ "program" := by rcases hk with rfl | rfl <;> decide +kernel
      obtain ⟨u, hu, ru⟩ := form_at T (k := k) (f := "") (form_bare hk)
      refine ⟨_, rfl, l, _, _, V.str k, rfl, rfl, SqL.of hl1, look _ 0 _ h rfl, rfl, _, rfl, ?_⟩
      refine ite_f (decide_eq_false fun e => hp (V.str.inj e)) ?_
      refine ⟨rfl, _, rfl, l, _, _, V.str k, rfl, rfl, SqL.of hl1, look _ 0 _ h rfl, k, some u, .str "", rfl, hu, ru, ?_⟩
      refine ⟨_, rfl, rfl, _, rfl, ?_⟩
      refine ite_f (decide_eq_false (by intro e; cases e)) ?_
      refine ⟨_, rfl, _, 2, rfl, .inl ⟨_, SqL.of hl1, by rw [h]; rfl⟩, _, rfl, _, 0, rfl, ⟨by decide +kernel, by decide +kernel⟩, _, _, rfl, rfl, rfl, _, rfl, ?_⟩
      refine ite_t (by decide) ?_
      exact ke rfl _ s1
    | one k n h hk hl0 =>
      have hp : k ≠ "program" := by rcases hk with rfl | rfl <;> decide +kernel
      obtain ⟨u, hu, ru⟩ := form_at T (k := k) (f := "n") (form_one hk)
      refine ⟨_, rfl, l, _, _, V.str k, rfl, rfl, SqL.of hl1, look _ 0 _ h rfl, rfl, _, rfl, ?_⟩
      refine ite_f (decide_eq_false fun e => hp (V.str.inj e)) ?_
      refine ⟨rfl, _, rfl, l, _, _, V.str k, rfl, rfl, SqL.of hl1, look _ 0 _ h rfl, k, some u, .str "n", rfl, hu, ru, ?_⟩
      refine ⟨_, rfl, rfl, _, rfl, ?_⟩
      refine ite_f (decide_eq_false (by intro e; cases e)) ?_
      refine ⟨_, rfl, _, 2, rfl, .inl ⟨_, SqL.of hl1, by rw [h]; rfl⟩, _, rfl, _, 1, rfl, ⟨by decide +kernel, by decide +kernel⟩, _, _, rfl, rfl, rfl, _, rfl, ?_⟩
      refine ite_f (by decide) ?_
      refine ⟨_, rfl, _, rfl, 1, rfl, l, _, rfl, SqL.of hl1, fun wl hwl => ?_⟩
      have ew : (upd H1 wl (.lst (cutV ((Txt.split z " ").map V.str) (some 1) none))) wl = some (.lst [V.str n]) := by
        rw [upd_same, cut_from1, h]
        rfl
      have s2 : Same H1 (upd H1 wl (.lst (cutV ((Txt.split z " ").map V.str) (some 1) none))) := Same.new (Same.refl _) hwl
      generalize (upd H1 wl (.lst (cutV ((Txt.split z " ").map V.str) (some 1) none))) = H2 at *
      refine ⟨"n", wl, _, rfl, SqL.of ew, fun Dd hD => ?_⟩
      refine lc_same (walk_zipS (K := K) (x := "n") (b := wl) (ys := [V.str n])) hD [V.bl (nameB n)] (by show 1 = min ("n" : Str).cps.size 1; decide +kernel) (Nat.le_trans (Nat.min_le_right _ _) (by show 1 ≤ sizeLine; decide)) (fun H' s' => Same.seq s' (SqL.of ew)) (fun i x y H3 H4 Q' hi s' yy hy q => ?_) (fun H' s' hD' => ?_)
      · obtain ⟨Tp, x, y2, rfl, nT, rfl, e1, e2⟩ := yy
        have hi0 : i = 0 := by
          have : i < 1 := Nat.lt_of_lt_of_le hi (Nat.min_le_right _ _)
          omega
        subst hi0
        have ex : x = V.str "n" := (Option.some.inj e1).symm
        have ey : y2 = V.str n := (Option.some.inj e2).symm
        have ey2 : y = V.bl (nameB n) := (Option.some.inj hy).symm
        subst ex ey ey2
        refine ⟨Tp, _, rfl, SqT.of upd_same, rfl, _, _, rfl, _, _, rfl, rfl, rfl, _, rfl, _, rfl, n, rfl, hl0, fun H5 s5 => ?_⟩
        exact q _ (Same.trans (Same.new (Same.refl _) nT) s5)
      · refine ⟨_, [nameB n], rfl, .of hD', _, rfl, ?_⟩
        have s3 := Same.trans s1 (Same.trans s2 s')
        cases hnb : nameB n with
        | true =>
          rw [hnb] at kq
          exact ite_f rfl ⟨_, rfl, kq _ rfl H' l s3 hl (s' _ _ (s2 _ _ (by rw [hl1, h])))⟩
        | false =>
          rw [hnb] at ke
          exact ite_t rfl (ke rfl _ s3)
end
end L2.Dk
set_option Elab.async false
set_option linter.all false
set_option maxRecDepth 100000
set_option maxHeartbeats 4000000
/-! Lines of the desk: plain facts. -/
namespace L2.Dk
open PySem PySem.Spec PyProof.Rows
open TL
open PySem.StrLaws (occBody occ_eq subAt_one strSub_toList)
open PySem.Builtin.Str (strSub)
/-! ### split with a limit -/
theorem occ_run (x : Str) (c limit : Nat) : ∀ (m cur : Nat) (st : Array Nat × Nat), st.2 ≤ cur → (forIn (List.range' cur m) st (occBody x ⟨#[c]⟩ x.length limit)).run.fst.toList = st.1.toList ++ ((List.range' cur m).filter fun i => decide (x.cps.toList[i]? = some c)).take (limit - st.1.size)
  | 0, cur, st, _ => by simp
  | m + 1, cur, st, hf => by
    rw [List.range'_succ, List.forIn_cons, List.filter_cons]
    unfold occBody
    have key := subAt_one x c cur
    by_cases hc : x.cps.toList[cur]? = some c
    · obtain ⟨k1, k2⟩ := key.mpr hc
      rw [if_pos (decide_eq_true hc)]
      by_cases hs : st.1.size < limit
      · rw [if_pos ⟨⟨⟨hs, hf⟩, k1⟩, k2⟩]
        have ih := occ_run x c limit m (cur + 1) (st.1.push cur, cur + (⟨#[c]⟩ : Str).length) (Nat.le_refl _)
        refine Eq.trans ih ?_
        obtain ⟨d, hd⟩ : ∃ d, limit - st.1.size = d + 1 := ⟨limit - st.1.size - 1, by omega⟩
        rw [hd, List.take_succ_cons]
        show (st.1.push cur).toList ++ List.take (limit - (st.1.push cur).size) _ = _
        rw [Array.toList_push, Array.size_push, show limit - (st.1.size + 1) = d by omega, List.append_assoc]
        rfl
      · rw [if_neg fun h => hs h.1.1.1]
        have ih := occ_run x c limit m (cur + 1) st (Nat.le_succ_of_le hf)
        refine Eq.trans ih ?_
        rw [show limit - st.1.size = 0 by omega, List.take_zero, List.take_zero]
    · rw [if_neg fun h => hc (key.mp ⟨h.1.2, h.2⟩), if_neg (by rw [decide_eq_false hc]; exact Bool.false_ne_true)]
      exact occ_run x c limit m (cur + 1) st (Nat.le_succ_of_le hf)
theorem occ_list (x : Str) (c limit : Nat) : Builtin.Str.occurrences x ⟨#[c]⟩ 0 x.length limit = ((List.range' 0 (x.length + 1)).filter fun i => decide (x.cps.toList[i]? = some c)).take limit := by
  rw [occ_eq]
  have := occ_run x c limit (x.length + 1 - 0) 0 (#[], 0) (Nat.le_refl _)
  refine Eq.trans this ?_
  simp
theorem filt_none {L : List Nat} {c : Nat} {s n : Nat} (h : ∀ i, s ≤ i → i < s + n → L[i]? ≠ some c) : ((List.range' s n).filter fun i => decide (L[i]? = some c)) = [] := by
  rw [List.filter_eq_nil_iff]
  intro i hi
  have := List.mem_range'_1.mp hi
  simpa using h i this.1 this.2
theorem filt_two {a b r : List Nat} {c : Nat} (ha : c ∉ a) (hb : c ∉ b) :
    (((List.range' 0 ((a ++ c :: (b ++ c :: r)).length + 1)).filter fun i => decide ((a ++ c :: (b ++ c :: r))[i]? = some c)).take 2) = [a.length, a.length + 1 + b.length] := by
  have e : List.range' 0 ((a ++ c :: (b ++ c :: r)).length + 1) = List.range' 0 a.length ++ (a.length :: (List.range' (a.length + 1) b.length ++ ((a.length + 1 + b.length) :: List.range' (a.length + 1 + b.length + 1) (r.length + 1)))) := by
    rw [← List.range'_succ, List.range'_append_1, ← List.range'_succ]
    have := List.range'_append_1 (s := 0) (m := a.length) (n := b.length + (r.length + 1 + 1) + 1)
    rw [Nat.zero_add] at this
    rw [this]
    congr 1
    simp
    omega
  rw [e, List.filter_append, filt_none, List.filter_cons, List.filter_append, filt_none, List.filter_cons]
  · have h1 : (a ++ c :: (b ++ c :: r))[a.length]? = some c := by
      rw [List.getElem?_append_right (Nat.le_refl _), Nat.sub_self]
      rfl
    have h2 : (a ++ c :: (b ++ c :: r))[a.length + 1 + b.length]? = some c := by
      rw [List.getElem?_append_right (by omega), show a.length + 1 + b.length - a.length = b.length + 1 by omega]
      show (b ++ c :: r)[b.length]? = _
      rw [List.getElem?_append_right (Nat.le_refl _), Nat.sub_self]
      rfl
    rw [if_pos (decide_eq_true h1), if_pos (decide_eq_true h2)]
    rfl
  · intro i h1 h2 h3
    rw [List.getElem?_append_right (by omega)] at h3
    obtain ⟨j, hj⟩ : ∃ j, i - a.length = j + 1 := ⟨i - a.length - 1, by omega⟩
    rw [hj] at h3
    have h4 : (b ++ c :: r)[j]? = some c := h3
    rw [List.getElem?_append_left (by omega)] at h4
    exact hb (List.mem_of_getElem? h4)
  · intro i h1 h2 h3
    rw [List.getElem?_append_left (by omega)] at h3
    exact ha (List.mem_of_getElem? h3)
theorem tl_inj {a b : Str} (h : tl a = tl b) : a = b := ext_tl h
theorem max_three {x p n t : Str} (e : tl x = tl p ++ 32 :: (tl n ++ 32 :: tl t)) (hp : 32 ∉ tl p) (hn : 32 ∉ tl n) : Txt.splitMax x " " 2 = [p, n, t] := by
  have eb : (" " : Str) = ⟨#[32]⟩ := by decide +kernel
  have hl : x.length = (tl p ++ 32 :: (tl n ++ 32 :: tl t)).length := by rw [len_tl, e]
  have occ : Builtin.Str.occurrences x " " 0 x.length (limitOf x 2) = [(tl p).length, (tl p).length + 1 + (tl n).length] := by
    show Builtin.Str.occurrences x " " 0 x.length 2 = _
    rw [eb, occ_list, hl]
    have ex : x.cps.toList = tl p ++ 32 :: (tl n ++ 32 :: tl t) := e
    rw [ex]
    exact filt_two hp hn
  unfold Txt.splitMax
  rw [if_neg, if_neg]
  · rw [occ]
    show [strSub x 0 _, strSub x _ _, strSub x _ _] = _
    have l1 : (" " : Str).length = 1 := by decide +kernel
    rw [l1]
    have a1 : strSub x 0 (tl p).length = p := tl_inj (by
      rw [tl_strSub, e]
      simp)
    have a2 : strSub x ((tl p).length + 1) ((tl p).length + 1 + (tl n).length) = n := tl_inj (by
      rw [tl_strSub, e, show (tl p).length + 1 + (tl n).length - ((tl p).length + 1) = (tl n).length by omega, ← List.drop_drop, List.drop_left]
      show List.take _ (tl n ++ 32 :: tl t) = _
      rw [List.take_left])
    have a3 : strSub x ((tl p).length + 1 + (tl n).length + 1) x.length = t := tl_inj (by
      rw [tl_strSub_end, e, show (tl p).length + 1 + (tl n).length + 1 = (tl p).length + (1 + ((tl n).length + 1)) by omega, ← List.drop_drop, List.drop_left, ← List.drop_drop]
      show List.drop _ (tl n ++ 32 :: tl t) = _
      rw [← List.drop_drop, List.drop_left]
      rfl)
    rw [a1, a2, a3]
  · rw [occ]
    intro h
    cases h
  · intro h
    rcases Bool.or_eq_true_iff.mp h with h | h
    · have := of_decide_eq_true h
      have l1 : (" " : Str).length = 1 := by decide +kernel
      rw [l1, hl] at this
      simp at this
    · exact kind_ok (x := x) (y := " ") (by decide +kernel) (of_decide_eq_true h)
/-! ### names and lines -/
structure Nm (n : Str) : Prop where
  lo : 1 ≤ n.length
  hi : n.length ≤ 8
  each : ∀ c ∈ tl n, 97 ≤ c ∧ c ≤ 122
theorem letters_at {c : Nat} (h : 97 ≤ c ∧ c ≤ 122) : c ∈ letters := by
  have : ∀ d : Fin 26, 97 + d.1 ∈ letters := by decide +kernel
  have := this ⟨c - 97, by omega⟩
  rw [show 97 + (c - 97) = c by omega] at this
  exact this
theorem letters_of {c : Nat} (h : c ∈ letters) : 97 ≤ c ∧ c ≤ 122 := by
  have : ∀ c ∈ letters, 97 ≤ c ∧ c ≤ 122 := by decide +kernel
  exact this c h
theorem Nm.b {n : Str} (h : Nm n) : nameB n = true := by
  unfold nameB
  rw [decide_eq_true (by have := h.lo; omega), decide_eq_true (by have := h.hi; omega)]
  show (List.map (fun c => decide (c ∈ letters)) n.cps.toList).all id = true
  rw [List.all_map, List.all_eq_true]
  intro c hc
  exact decide_eq_true (letters_at (h.each c hc))
theorem Nm.free {n : Str} (h : Nm n) {c : Nat} (hc : c < 97) : c ∉ tl n := fun hm => by
  have := h.each c hm
  omega
theorem zero_bad (n : Str) : nameB (n ++ ("0" : Str)) = false := by
  unfold nameB
  have : (List.map (fun c => decide (c ∈ letters)) (n ++ ("0" : Str)).cps.toList).all id = false := by
    have e : (n ++ ("0" : Str)).cps.toList = tl n ++ [48] := tl_append n "0"
    rw [e, List.map_append, List.all_append]
    have : (List.map (fun c => decide (c ∈ letters)) [48]).all id = false := by decide +kernel
    rw [this, Bool.and_false]
  rw [this, Bool.and_false]
/-- two words, a blank between them -/
theorem two_split {a b z : Str} (e : tl z = tl a ++ 32 :: tl b) (ha : 32 ∉ tl a) (hb : 32 ∉ tl b) : Txt.split z " " = [a, b] := by
  have ez : z = Txt.join " " [a, b] := by
    refine tl_inj ?_
    rw [e, join_eq, tl_join]
    rfl
  rw [ez]
  refine split_join (y := " ") (s := 32) (S := []) (by decide +kernel) (by decide +kernel) (by simp) fun q hq => ?_
  rcases List.mem_cons.mp hq with rfl | hq
  · exact ha
  · rcases List.mem_cons.mp hq with rfl | hq
    · exact hb
    · cases hq
theorem head_split {a z : Str} {r : List Nat} (e : tl z = tl a ++ 32 :: r) (ha : 32 ∉ tl a) : ∃ l, Txt.split z " " = a :: l := by
  have h := split_spl z " " (by decide +kernel) (kind_ok (x := z) (y := " ") (by decide +kernel))
  have eb : tl (" " : Str) = [32] := by decide +kernel
  rw [eb, e] at h
  have h2 : spl [32] 0 [] (tl a ++ ([32] ++ r)) = ([] ++ tl a) :: spl [32] 0 [] r := spl_part1 ha
  rw [show tl a ++ 32 :: r = tl a ++ ([32] ++ r) from rfl, h2] at h
  cases hz : Txt.split z " " with
  | nil => rw [hz] at h; cases h
  | cons w l =>
    rw [hz, List.map_cons] at h
    injection h with h3 h4
    exact ⟨l, by rw [tl_inj (h3.trans (List.nil_append _))]⟩
def lineShow (n : Str) : Str := ("show " : Str) ++ n
def lineDrop (n : Str) : Str := ("drop " : Str) ++ n
def lineProg (n t : Str) : Str := ("program " : Str) ++ n ++ (" " : Str) ++ t
theorem tl_one {k d n : Str} (e : tl k = tl d ++ [32]) : tl (k ++ n) = tl d ++ 32 :: tl n := by
  rw [tl_append, e]
  simp
theorem tl_show (n : Str) : tl (lineShow n) = tl ("show" : Str) ++ 32 :: tl n := tl_one (by decide +kernel)
theorem tl_drop (n : Str) : tl (lineDrop n) = tl ("drop" : Str) ++ 32 :: tl n := tl_one (by decide +kernel)
theorem tl_progl (n t : Str) : tl (lineProg n t) = tl ("program" : Str) ++ 32 :: (tl n ++ 32 :: tl t) := by
  unfold lineProg
  have e : tl ("program " : Str) = tl ("program" : Str) ++ [32] := by decide +kernel
  have e2 : tl (" " : Str) = [32] := by decide +kernel
  rw [tl_append, tl_append, tl_append, e, e2]
  simp
theorem app_free {a b : List Nat} {c d : Nat} (ha : c ∉ a) (hd : c ≠ d) (hb : c ∉ b) : c ∉ a ++ d :: b := by
  intro h
  rcases List.mem_append.mp h with h | h
  · exact ha h
  · rcases List.mem_cons.mp h with h | h
    · exact hd h
    · exact hb h
/-- what a line says, its size, no line's end -/
structure Says (z : Str) (r : Option (List Str)) : Prop where
  t : TLine z r
  nl : 10 ∉ tl z
  len : z.length ≤ 1000
theorem says_show {n : Str} (h : Nm n) : Says (lineShow n) (some [("show" : Str), n]) := by
  have e := tl_show n
  refine ⟨?_, ?_, ?_⟩
  · have := TLine.one (z := lineShow n) "show" n (two_split e (by decide +kernel) (h.free (by decide))) (.inr rfl) (Nat.le_trans h.hi (by decide))
    rw [h.b] at this
    exact this
  · rw [e]
    exact app_free (by decide +kernel) (by decide) (h.free (by decide))
  · rw [len_tl, e, List.length_append, List.length_cons, ← len_tl n]
    have : (tl ("show" : Str)).length = 4 := by decide +kernel
    have := h.hi
    omega
theorem says_drop {n : Str} (h : Nm n) : Says (lineDrop n) (some [("drop" : Str), n]) := by
  have e := tl_drop n
  refine ⟨?_, ?_, ?_⟩
  · have := TLine.one (z := lineDrop n) "drop" n (two_split e (by decide +kernel) (h.free (by decide))) (.inl rfl) (Nat.le_trans h.hi (by decide))
    rw [h.b] at this
    exact this
  · rw [e]
    exact app_free (by decide +kernel) (by decide) (h.free (by decide))
  · rw [len_tl, e, List.length_append, List.length_cons, ← len_tl n]
    have : (tl ("drop" : Str)).length = 4 := by decide +kernel
    have := h.hi
    omega
theorem says_drop0 {n : Str} (h : Nm n) : Says (lineDrop n ++ ("0" : Str)) none := by
  have e : tl (lineDrop n ++ ("0" : Str)) = tl ("drop" : Str) ++ 32 :: tl (n ++ ("0" : Str)) := by
    rw [tl_append, tl_drop, tl_append]
    simp
  have hf : ∀ c, c < 97 → c ≠ 48 → c ∉ tl (n ++ ("0" : Str)) := fun c h1 h2 hm => by
    rw [tl_append] at hm
    rcases List.mem_append.mp hm with hm | hm
    · exact h.free h1 hm
    · have : tl ("0" : Str) = [48] := by decide +kernel
      rw [this] at hm
      exact h2 (List.mem_singleton.mp hm)
  have hl : (n ++ ("0" : Str)).length ≤ 9 := by
    rw [len_app]
    have : ("0" : Str).length = 1 := by decide +kernel
    have := h.hi
    omega
  refine ⟨?_, ?_, ?_⟩
  · have := TLine.one (z := lineDrop n ++ ("0" : Str)) "drop" (n ++ ("0" : Str)) (two_split e (by decide +kernel) (hf 32 (by decide) (by decide))) (.inl rfl) (Nat.le_trans hl (by decide))
    rw [zero_bad n] at this
    exact this
  · rw [e]
    exact app_free (by decide +kernel) (by decide) (hf 10 (by decide) (by decide))
  · rw [len_tl, e, List.length_append, List.length_cons, ← len_tl (n ++ ("0" : Str))]
    have : (tl ("drop" : Str)).length = 4 := by decide +kernel
    omega
theorem says_prog {n t : Str} (h : Nm n) (ht : t ≠ "") (h10 : 10 ∉ tl t) (hl : t.length ≤ 500) : Says (lineProg n t) (some [("program" : Str), n, t]) := by
  have e := tl_progl n t
  obtain ⟨r, hr⟩ := head_split e (by decide +kernel)
  refine ⟨?_, ?_, ?_⟩
  · exact TLine.prog n t r hr (max_three e (by decide +kernel) (h.free (by decide))) h.b (Nat.le_trans h.hi (by decide)) ht
  · rw [e]
    exact app_free (by decide +kernel) (by decide) (app_free (h.free (by decide)) (by decide) h10)
  · rw [len_tl, e, List.length_append, List.length_cons, List.length_append, List.length_cons, ← len_tl n, ← len_tl t]
    have : (tl ("program" : Str)).length = 7 := by decide +kernel
    have := h.hi
    omega
theorem says_names : Says "names" (some [("names" : Str)]) := ⟨.bare "names" (by decide +kernel) (.inl rfl), by decide +kernel, by decide +kernel⟩
theorem says_undo : Says "undo" (some [("undo" : Str)]) := ⟨.bare "undo" (by decide +kernel) (.inr rfl), by decide +kernel, by decide +kernel⟩
theorem says_names_ : Says "names " none := ⟨.bare2 "names" "" (by decide +kernel) (.inl rfl), by decide +kernel, by decide +kernel⟩
theorem says_empty : Says "" none := ⟨.noform (by decide +kernel), by decide +kernel, by decide +kernel⟩
theorem says_undo1 : Says "undo 1" none := ⟨.bare2 "undo" "1" (by decide +kernel) (.inr rfl), by decide +kernel, by decide +kernel⟩
theorem says_Abc : Says "show Abc" none := by
  refine ⟨?_, by decide +kernel, by decide +kernel⟩
  have := TLine.one (z := "show Abc") "show" "Abc" (by decide +kernel) (.inr rfl) (by decide +kernel)
  have e : nameB "Abc" = false := by decide +kernel
  rw [e] at this
  exact this
end L2.Dk
set_option Elab.async false
set_option linter.all false
set_option maxRecDepth 100000
set_option maxHeartbeats 4000000
/-! Dicts with text keys, sorted texts: plain facts. -/
namespace L2.Dk
open PySem PySem.Spec PyProof.Rows
open TL
/-! ### sorted lists of texts -/
def leS (a b : Str) : Prop := ltCps b.cps.toList a.cps.toList = false
theorem leS_iff {a b : Str} : leS a b ↔ ¬ b.cps.toList < a.cps.toList := by
  unfold leS
  rw [ltCps_eq]
  exact decide_eq_false_iff_not
theorem leS_trans {a b c : Str} (h1 : leS a b) (h2 : leS b c) : leS a c := by
  rw [leS_iff] at *
  have h1' : a.cps.toList ≤ b.cps.toList := List.not_lt.mp h1
  have h2' : b.cps.toList ≤ c.cps.toList := List.not_lt.mp h2
  exact List.not_lt.mpr (List.le_trans h1' h2')
theorem leS_anti {a b : Str} (h1 : leS a b) (h2 : leS b a) : a = b := by
  rw [leS_iff] at *
  have h1' : a.cps.toList ≤ b.cps.toList := List.not_lt.mp h1
  have h2' : b.cps.toList ≤ a.cps.toList := List.not_lt.mp h2
  exact ext_tl (List.le_antisymm h1' h2')
theorem rising_pw : ∀ (l : List Str) (p : Str), risingS p l = true → (p :: l).Pairwise leS
  | [], p, _ => List.pairwise_singleton _ _
  | x :: r, p, h => by
    have h2 : (!ltCps x.cps.toList p.cps.toList && risingS x r) = true := h
    obtain ⟨h3, h4⟩ := Bool.and_eq_true_iff.mp h2
    have hx : leS p x := by
      unfold leS
      cases q : ltCps x.cps.toList p.cps.toList with
      | false => rfl
      | true => rw [q] at h3; cases h3
    have ih := rising_pw r x h4
    refine List.pairwise_cons.mpr ⟨fun y hy => ?_, ih⟩
    rcases List.mem_cons.mp hy with rfl | hy
    · exact hx
    · exact leS_trans hx (List.rel_of_pairwise_cons ih hy)
theorem sorted_pw : ∀ {l : List Str}, sortedS l = true → l.Pairwise leS
  | [], _ => List.Pairwise.nil
  | x :: r, h => rising_pw r x h
theorem perm_sorted : ∀ {l m : List Str}, l.Perm m → l.Pairwise leS → m.Pairwise leS → l = m
  | [], m, p, _, _ => (List.nil_perm.mp p).symm
  | x :: r, [], p, _, _ => absurd p.length_eq (by simp)
  | x :: r, y :: s, p, h1, h2 => by
    have e : x = y := by
      have hx : x ∈ y :: s := p.mem_iff.mp (List.mem_cons_self ..)
      have hy : y ∈ x :: r := p.mem_iff.mpr (List.mem_cons_self ..)
      rcases List.mem_cons.mp hx with e | hx
      · exact e
      · rcases List.mem_cons.mp hy with e | hy
        · exact e.symm
        · exact leS_anti (List.rel_of_pairwise_cons h1 hy) (List.rel_of_pairwise_cons h2 hx)
    subst e
    rw [perm_sorted (p.cons_inv) (List.Pairwise.of_cons h1) (List.Pairwise.of_cons h2)]
theorem sorted_eq {l m a b : List Str} (h1 : l.Perm a) (h2 : m.Perm b) (hab : a.Perm b) (s1 : sortedS l = true) (s2 : sortedS m = true) : l = m :=
  perm_sorted (h1.trans (hab.trans h2.symm)) (sorted_pw s1) (sorted_pw s2)
theorem nodup_perm {α : Type} [DecidableEq α] : ∀ {a b : List α}, a.Nodup → b.Nodup → (∀ x, x ∈ a ↔ x ∈ b) → a.Perm b
  | a, b, ha, hb, h => (List.perm_ext_iff_of_nodup ha hb).mpr h
theorem nodup_len {α : Type} [DecidableEq α] : ∀ {a b : List α}, a.Nodup → (∀ x ∈ a, x ∈ b) → a.length ≤ b.length
  | [], b, _, _ => Nat.zero_le _
  | x :: r, b, h, hs => by
    obtain ⟨h1, h2⟩ := List.nodup_cons.mp h
    have hx := hs x (List.mem_cons_self ..)
    have := nodup_len (a := r) (b := b.erase x) h2 fun y hy => by
      have : y ≠ x := fun e => h1 (e ▸ hy)
      exact (List.mem_erase_of_ne this).mpr (hs y (List.mem_cons_of_mem _ hy))
    rw [List.length_erase_of_mem hx] at this
    have : 0 < b.length := List.length_pos_of_mem hx
    simp only [List.length_cons]
    omega
/-! ### a dict with text keys out of N: what it holds -/
structure KD (kvs : List (Key × V)) (N : List Str) (g : Str → Option V) : Prop where
  keys : ∃ ns : List Str, kvs.map (·.1) = ns.map Sum.inr ∧ ns.Nodup ∧ ∀ n ∈ ns, n ∈ N
  at_ : ∀ n, valV kvs (Sum.inr n) = g n
theorem inr_mem {ns : List Str} {n : Str} : (Sum.inr n : Key) ∈ ns.map Sum.inr ↔ n ∈ ns := by
  constructor
  · intro h
    obtain ⟨m, hm, e⟩ := List.mem_map.mp h
    cases e
    exact hm
  · exact fun h => List.mem_map.mpr ⟨n, h, rfl⟩
theorem KD.nil {N : List Str} : KD [] N (fun _ => none) := ⟨⟨[], rfl, List.nodup_nil, fun _ h => by cases h⟩, fun _ => rfl⟩
theorem KD.mem {kvs : List (Key × V)} {N ns : List Str} {g : Str → Option V} (h : KD kvs N g) (e : kvs.map (·.1) = ns.map Sum.inr) (n : Str) : n ∈ ns ↔ (g n).isSome = true := by
  rw [← h.at_ n]
  constructor
  · intro hn
    cases q : valV kvs (Sum.inr n : Key) with
    | some v => rfl
    | none =>
      refine absurd ?_ (valV_not q)
      rw [e]
      exact inr_mem.mpr hn
  · intro hs
    obtain ⟨v, hv⟩ := Option.isSome_iff_exists.mp hs
    have := valV_in hv
    rw [e] at this
    exact inr_mem.mp this
theorem KD.len {kvs : List (Key × V)} {N : List Str} {g : Str → Option V} (h : KD kvs N g) : kvs.length ≤ N.length := by
  obtain ⟨ns, e, nd, hs⟩ := h.keys
  have := congrArg List.length e
  rw [List.length_map, List.length_map] at this
  rw [this]
  exact nodup_len nd hs
theorem putK_keys {kvs : List (Key × V)} {k : Key} {v w : V} (h : valV kvs k = some w) : (putK kvs k v).map (·.1) = kvs.map (·.1) := by
  unfold putK
  rw [valV_any, h]
  simp only [Option.isSome_some, if_true, List.map_map]
  refine List.map_congr_left fun p _ => ?_
  show (if p.1 = k then (p.1, v) else p).1 = p.1
  split <;> rfl
theorem KD.put {kvs : List (Key × V)} {N : List Str} {g : Str → Option V} (h : KD kvs N g) {n : Str} (hn : n ∈ N) (v : V) : KD (putK kvs (Sum.inr n) v) N (fun m => if m = n then some v else g m) := by
  obtain ⟨ns, e, nd, hs⟩ := h.keys
  refine ⟨?_, fun m => ?_⟩
  · cases q : valV kvs (Sum.inr n : Key) with
    | some u => exact ⟨ns, (putK_keys q).trans e, nd, hs⟩
    | none =>
      have hnn : n ∉ ns := fun hm => valV_not q (by rw [e]; exact inr_mem.mpr hm)
      refine ⟨ns ++ [n], ?_, nd_snoc nd hnn, fun m hm => ?_⟩
      · rw [putK_new v q, List.map_append, List.map_append, e]
        rfl
      · rcases List.mem_append.mp hm with hm | hm
        · exact hs m hm
        · rw [List.mem_singleton.mp hm]
          exact hn
  · rw [valV_put, ← h.at_ m]
    by_cases em : m = n
    · rw [if_pos (congrArg Sum.inr em), if_pos em]
    · rw [if_neg (fun z => em (Sum.inr.inj z)), if_neg em]
theorem valV_drop {kvs : List (Key × V)} {k j : Key} : valV (dropK kvs k) j = if j = k then none else valV kvs j := by
  induction kvs with
  | nil =>
    show none = if j = k then none else none
    split <;> rfl
  | cons p r ih =>
    by_cases e : p.1 = k
    · rw [dropK_pos e, ih]
      by_cases ej : j = k
      · rw [if_pos ej, if_pos ej]
      · rw [if_neg ej, if_neg ej, valV_neg fun z => ej (z.symm.trans e)]
    · rw [dropK_neg e]
      by_cases ej : p.1 = j
      · rw [valV_pos ej, valV_pos ej, if_neg fun z => e (ej.trans z)]
      · rw [valV_neg ej, valV_neg ej, ih]
theorem KD.drop {kvs : List (Key × V)} {N : List Str} {g : Str → Option V} (h : KD kvs N g) (n : Str) : KD (dropK kvs (Sum.inr n)) N (fun m => if m = n then none else g m) := by
  obtain ⟨ns, e, nd, hs⟩ := h.keys
  refine ⟨⟨ns.filter fun m => decide (m ≠ n), ?_, nd.filter _, fun m hm => hs m (List.mem_filter.mp hm).1⟩, fun m => ?_⟩
  · have : (dropK kvs (Sum.inr n : Key)).map (·.1) = (kvs.map (·.1)).filter fun k => decide (k ≠ (Sum.inr n : Key)) := by
      unfold dropK
      rw [List.filter_map]
      rfl
    rw [this, e, List.filter_map]
    congr 1
    refine List.filter_congr fun m _ => ?_
    show decide ((Sum.inr m : Key) ≠ Sum.inr n) = decide (m ≠ n)
    exact decide_eq_decide.mpr ⟨fun h z => h (congrArg Sum.inr z), fun h z => h (Sum.inr.inj z)⟩
  · rw [valV_drop, ← h.at_ m]
    by_cases em : m = n
    · rw [if_pos (congrArg Sum.inr em), if_pos em]
    · rw [if_neg (fun z => em (Sum.inr.inj z)), if_neg em]
theorem KD.congr {kvs : List (Key × V)} {N : List Str} {g g' : Str → Option V} (h : KD kvs N g) (e : ∀ n, g n = g' n) : KD kvs N g' := ⟨h.keys, fun n => (h.at_ n).trans (e n)⟩
theorem KD.perm {kvs kvs' : List (Key × V)} {N N' ns ns' : List Str} {g g' : Str → Option V} (h : KD kvs N g) (h' : KD kvs' N' g') (e : kvs.map (·.1) = ns.map Sum.inr) (e' : kvs'.map (·.1) = ns'.map Sum.inr) (nd : ns.Nodup) (nd' : ns'.Nodup)
    (hg : ∀ n, (g n).isSome = (g' n).isSome) : ns.Perm ns' :=
  nodup_perm nd nd' fun n => by rw [h.mem e, h'.mem e', hg]
end L2.Dk
set_option Elab.async false
set_option linter.all false
set_option maxRecDepth 100000
set_option maxHeartbeats 4000000
/-! The desk's heap, its small methods. -/
namespace L2.Dk
open PySem PySem.Spec PyProof.Rows
open TL
/-- tuples and instances stay -/
structure KTI (H H' : Hp) : Prop where
  t : ∀ b xs, H b = some (.tup xs) → H' b = some (.tup xs)
  i : ∀ b C dx fs, H b = some (.ins C dx fs) → H' b = some (.ins C dx fs)
theorem KTI.refl (H : Hp) : KTI H H := ⟨fun _ _ e => e, fun _ _ _ _ e => e⟩
theorem KTI.trans {H H1 H2 : Hp} (a : KTI H H1) (b : KTI H1 H2) : KTI H H2 := ⟨fun x xs e => b.t _ _ (a.t _ _ e), fun x C dx fs e => b.i _ _ _ _ (a.i _ _ _ _ e)⟩
theorem KTI.same {H H' : Hp} (s : Same H H') : KTI H H' := ⟨fun _ _ e => s _ _ e, fun _ _ _ _ e => s _ _ e⟩
theorem KTI.lst {H : Hp} {a : Addr} {xs : List V} {o : HO} (h : H a = some (.lst xs)) : KTI H (upd H a o) :=
  ⟨fun b xs e => by rw [upd_ne (ne_of e h (by intro z; cases z))]; exact e, fun b C dx fs e => by rw [upd_ne (ne_of e h (by intro z; cases z))]; exact e⟩
theorem KTI.dk {H : Hp} {a : Addr} {kvs : List (Key × V)} {o : HO} (h : H a = some (.dK kvs)) : KTI H (upd H a o) :=
  ⟨fun b xs e => by rw [upd_ne (ne_of e h (by intro z; cases z))]; exact e, fun b C dx fs e => by rw [upd_ne (ne_of e h (by intro z; cases z))]; exact e⟩
theorem KTI.new {H : Hp} {a : Addr} {o : HO} (h : H a = none) : KTI H (upd H a o) := KTI.same (Same.new (Same.refl _) h)
theorem RdT.kti {H H' : Hp} {a : Addr} {k : Rd} (s : KTI H H') (h : RdT H a k) : RdT H' a k := by
  obtain ⟨b, h1, h2⟩ := h
  exact ⟨b, s.t _ _ h1, s.t _ _ h2⟩
theorem ProgAt.kti {K : PySem.W.Frag} {H H' : Hp} {a : Addr} {p : Parts} (s : KTI H H') (h : ProgAt K H a p) : ProgAt K H' a p := by
  obtain ⟨dx, r, h1, ks, h2, h3, h4⟩ := h
  exact ⟨dx, r, s.i _ _ _ _ h1, ks, s.t _ _ h2, h3, fun q hq => RdT.kti s (h4 q hq)⟩
/-- a value for what may be kept -/
def OptAt (K : PySem.W.Frag) (H : Hp) (v : Option V) (o : Option Parts) : Prop := match o with
  | none => v = none
  | some P => ∃ a, v = some (.ref a) ∧ ProgAt K H a P ∧ P.Tight
theorem OptAt.kti {K : PySem.W.Frag} {H H' : Hp} {v : Option V} {o : Option Parts} (s : KTI H H') (h : OptAt K H v o) : OptAt K H' v o := by
  cases o with
  | none => exact h
  | some P =>
    obtain ⟨a, h1, h2, h3⟩ := h
    exact ⟨a, h1, ProgAt.kti s h2, h3⟩
theorem OptAt.none_iff {K : PySem.W.Frag} {H : Hp} {v : Option V} {o : Option Parts} (h : OptAt K H v o) : v.isSome = o.isSome := by
  cases o with
  | none =>
    have : v = none := h
    rw [this]
    rfl
  | some P =>
    obtain ⟨a, h1, _⟩ := h
    rw [h1]
    rfl
def fset (f : Str → Option Parts) (n : Str) (o : Option Parts) : Str → Option Parts := fun m => if m = n then o else f m
abbrev Past := List (Str × Option Parts)
def PastAt (K : PySem.W.Frag) (H : Hp) (xs : List V) (hist : Past) : Prop := xs.length = hist.length ∧ ∀ (i : Nat) (x : V) (h : Str × Option Parts), xs[i]? = some x → hist[i]? = some h →
  ∃ t v, x = .ref t ∧ H t = some (.tup [.str h.1, Option.getD v V.non]) ∧ OptAt K H v h.2
theorem PastAt.kti {K : PySem.W.Frag} {H H' : Hp} {xs : List V} {hist : Past} (s : KTI H H') (h : PastAt K H xs hist) : PastAt K H' xs hist :=
  ⟨h.1, fun i x e h1 h2 => by
    obtain ⟨t, v, a, b, c⟩ := h.2 i x e h1 h2
    exact ⟨t, v, a, s.t _ _ b, OptAt.kti s c⟩⟩
theorem PastAt.nil {K : PySem.W.Frag} {H : Hp} : PastAt K H [] [] := ⟨rfl, fun i x h e => by cases e⟩
theorem PastAt.snoc {K : PySem.W.Frag} {H : Hp} {xs : List V} {hist : Past} {t : Addr} {v : Option V} {n : Str} {o : Option Parts} (h : PastAt K H xs hist) (ht : H t = some (.tup [.str n, v.getD .non])) (ho : OptAt K H v o) : PastAt K H (xs ++ [.ref t]) (hist ++ [(n, o)]) := by
  refine ⟨by rw [List.length_append, List.length_append, h.1]; rfl, fun i x e h1 h2 => ?_⟩
  by_cases hi : i < xs.length
  · rw [List.getElem?_append_left hi] at h1
    rw [List.getElem?_append_left (by rw [← h.1]; exact hi)] at h2
    exact h.2 i x e h1 h2
  · rw [List.getElem?_append_right (by omega)] at h1
    rw [List.getElem?_append_right (by rw [← h.1]; omega), ← h.1] at h2
    cases e3 : i - xs.length with
    | zero =>
      rw [e3] at h1 h2
      cases h1
      cases h2
      exact ⟨t, v, rfl, ht, ho⟩
    | succ m =>
      rw [e3] at h1
      cases h1
theorem PastAt.pop {K : PySem.W.Frag} {H : Hp} {xs : List V} {hist : Past} {n : Str} {o : Option Parts} (h : PastAt K H xs (hist ++ [(n, o)])) :
    ∃ t v, xs[xs.length - 1]? = some (.ref t) ∧ H t = some (.tup [.str n, Option.getD v V.non]) ∧ OptAt K H v o ∧ PastAt K H xs.dropLast hist := by
  have hl : xs.length = hist.length + 1 := by rw [h.1, List.length_append]; rfl
  obtain ⟨x, hx⟩ : ∃ x, xs[xs.length - 1]? = some x := ⟨xs[xs.length - 1]'(by omega), by simp⟩
  obtain ⟨t, v, rfl, b, c⟩ := h.2 (xs.length - 1) x (n, o) hx (by rw [List.getElem?_append_right (by omega), show xs.length - 1 - hist.length = 0 by omega]; rfl)
  refine ⟨t, v, hx, b, c, ?_, fun i x e h1 h2 => ?_⟩
  · rw [List.length_dropLast]
    omega
  · have hi : i < hist.length := (List.getElem?_eq_some_iff.mp h2).1
    refine h.2 i x e ?_ (by rw [List.getElem?_append_left hi]; exact h2)
    rw [List.getElem?_dropLast] at h1
    by_cases h3 : i < xs.length - 1
    · rw [if_pos h3] at h1
      exact h1
    · omega
def deskF (dk dp : Addr) : List (Str × V) := putF "past" (.ref dp) (putF "kept" (.ref dk) [])
theorem deskF_kept (dk dp : Addr) : (deskF dk dp).lookup ("kept" : Str) = some (.ref dk) := by
  unfold deskF
  rw [lookup_putF, if_neg (by decide +kernel), lookup_putF, if_pos rfl]
theorem deskF_past (dk dp : Addr) : (deskF dk dp).lookup ("past" : Str) = some (.ref dp) := by
  unfold deskF
  rw [lookup_putF, if_pos rfl]
theorem deskF_no (dk dp : Addr) {m : Str} (h1 : ¬ m = "past") (h2 : ¬ m = "kept") : (deskF dk dp).lookup m = none := by
  unfold deskF
  rw [lookup_putF, if_neg h1, lookup_putF, if_neg h2]
  rfl
/-- the desk at p: what it keeps, what can be taken back -/
def DeskAt (K : PySem.W.Frag) (H : Hp) (p dk dp : Addr) (N : List Str) (f : Str → Option Parts) (hist : Past) : Prop := ∃ dx kvs g xs, H p = some (.ins (He.ga K "Desk") dx (deskF dk dp)) ∧ H dk = some (.dK kvs) ∧ H dp = some (.lst xs) ∧
  KD kvs N g ∧ (∀ n, OptAt K H (g n) (f n)) ∧ PastAt K H xs hist
theorem DeskAt.keep {K : PySem.W.Frag} {H H' : Hp} {p dk dp : Addr} {N : List Str} {f : Str → Option Parts} {hist : Past} (h : DeskAt K H p dk dp N f hist) (s : KTI H H') (h1 : H' dk = H dk) (h2 : H' dp = H dp) : DeskAt K H' p dk dp N f hist := by
  obtain ⟨dx, kvs, g, xs, a1, a2, a3, a4, a5, a6⟩ := h
  exact ⟨dx, kvs, g, xs, s.i _ _ _ _ a1, h1.trans a2, h2.trans a3, a4, fun n => OptAt.kti s (a5 n), PastAt.kti s a6⟩
theorem DeskAt.same {K : PySem.W.Frag} {H H' : Hp} {p dk dp : Addr} {N : List Str} {f : Str → Option Parts} {hist : Past} (h : DeskAt K H p dk dp N f hist) (s : Same H H') : DeskAt K H' p dk dp N f hist := by
  obtain ⟨dx, kvs, g, xs, a1, a2, a3, a4, a5, a6⟩ := id h
  exact h.keep (KTI.same s) ((s _ _ a2).trans a2.symm) ((s _ _ a3).trans a3.symm)
def Off1 (a : Addr) (H H' : Hp) : Prop := ∀ b o, b ≠ a → H b = some o → H' b = some o
def Off2 (a c : Addr) (H H' : Hp) : Prop := ∀ b o, b ≠ a → b ≠ c → H b = some o → H' b = some o
section
variable {w : World} {K : PySem.W.Frag} {mg : Str → Option Value} {base : Heap}
theorem okT {CX : CXT} {N ps : List Str} {k : Nat} {sp : Sp} {x qual : Str} {params : Arguments} {body : List Stmt} {scope : Scope} {dvs : List V} {kws : List (Str × V)} {f : Addr} {fd : FuncData} {P : Program} (F : FunD K x qual params body scope dvs kws f fd) (S : FnScope N ps scope)
    (hnc : ∀ y ∈ scope.names, y.2 ≠ .cell) (hps : 1 ≤ ps.length) (len : ∀ vs H Q E, sp vs H Q E → vs.length = ps.length)
    (hbody : ∀ (cdv : Value) (A : Around) (outer : List Env) (s : Shared) (H : Hp) (vs : List V) (Q : VK) (E : XK), Room k (A.deeper (envOfC qual scope s.heap.objs.size f cdv)) → sp vs H Q E →
      ∃ t, PSsT (cxOf CX P w K mg base N qual scope f cdv A outer s H E) body t ∧ t { nx := fun _ H' => Q .non H', rt := Q } (start N vs) H) : FnOk P w K mg base CX (k + 1) f fd ps sp := by
  obtain ⟨oc, od, dV, kV, doc, pm, an, cdv, ct, osl, rfl, lk, hcd, _, _⟩ := F.ex
  exact fn_ofT lk hcd S hnc hps len fun A outer s H vs Q E hr hsp => hbody cdv A outer s H vs Q E hr hsp
/-! ### __init__ -/
def spDeskInit (K : PySem.W.Frag) : Sp := fun vs H Q _ => ∃ (p dx : Addr), vs = [.ref p] ∧ H p = some (.ins (He.ga K "Desk") dx []) ∧ ∀ H' dk dp, (∀ b o, b ≠ p → H b = some o → H' b = some o) → H dk = none → H dp = none → (∀ N, DeskAt K H' p dk dp N (fun _ => none) []) → Q .non H'
theorem sc_Desk_init : FnScope ["self"] ["self"] (defScope s_Desk_init) := ⟨rfl, rfl, rfl, by decide +kernel, rfl, by decide +kernel, by decide +kernel⟩
theorem c_Desk_init (T : Txt w K mg) : ∃ fd, Mk K (He.ga K "Desk") (He.ma K (He.ga K "Desk") "__init__") ∧ Binds K fd ["self"] [] ∧ FnOk prg w K mg base CX0 1 (He.ma K (He.ga K "Desk") "__init__") fd ["self"] (spDeskInit K) := by
  obtain ⟨fd, F⟩ := T.d_Desk_init
  refine ⟨fd, T.mk_Desk, F.bindsN fun _ _ _ _ _ _ us hl => match us, hl with | [_], _ => rfl, ?_⟩
  refine F.ok sc_Desk_init (fun vs H Q E h => ?_) (fun cdv A outer s H vs Q E hr h => ?_)
  · obtain ⟨p, dx, rfl, _⟩ := h
    rfl
  · obtain ⟨p, dx, rfl, hp, k⟩ := h
    refine ⟨_, pss_cons (ps_fld (pv 0) pe_dnewK rfl) (pss_one (ps_fld (pv 0) (pe_lst pa_nil) rfl)), ?_⟩
    intro dk hdk
    have n1 : p ≠ dk := ne_of_none hp hdk
    refine ⟨_, rfl, p, _, dx, [], rfl, Eq.trans (upd_ne n1) hp, T.cl_Desk, T.no_Desk_kept, (by show 0 < 1000; decide), ?_⟩
    refine ⟨Nat.zero_le _, fun dp hdp => ?_⟩
    have n2 : p ≠ dp := fun q => by rw [← q, upd_same] at hdp; cases hdp
    have hdp1 : upd H dk (.dK []) dp = none := by rw [upd_ne n2.symm] at hdp; exact hdp
    have n3 : dk ≠ dp := fun q => by rw [← q, upd_same] at hdp1; cases hdp1
    have hdp0 : H dp = none := by rw [upd_ne n3.symm] at hdp1; exact hdp1
    refine ⟨_, rfl, p, _, dx, _, rfl, Eq.trans (upd_ne n2) upd_same, T.cl_Desk, T.no_Desk_past, (by show 1 < 1000; decide), ?_⟩
    refine k _ dk dp (fun b o hb e => ?_) hdk hdp0 (fun N => ⟨dx, [], fun _ => none, [], upd_same, ?_, ?_, KD.nil, fun _ => rfl, PastAt.nil⟩)
    · rw [upd_ne hb, upd_ne (ne_of_none e hdp0), upd_ne hb, upd_ne (ne_of_none e hdk)]
      exact e
    · rw [upd_ne n1.symm, upd_ne n3, upd_ne n1.symm, upd_same]
    · rw [upd_ne n2.symm, upd_same]
/-! ### put -/
def spPut (K : PySem.W.Frag) : Sp := fun vs H Q _ => ∃ (p dk dp : Addr) (N : List Str) (f : Str → Option Parts) (hist : Past) (n : Str) (v : Option V) (o : Option Parts), vs = [.ref p, .str n, v.getD .non] ∧ DeskAt K H p dk dp N f hist ∧ OptAt K H v o ∧ n ∈ N ∧ N.length ≤ 20 ∧
  ∀ H', Off1 dk H H' → DeskAt K H' p dk dp N (fset f n o) hist → Q .non H'
theorem sc_Desk_put : FnScope ["self", "name", "program"] ["self", "name", "program"] (defScope s_Desk_put) := ⟨rfl, rfl, rfl, by decide +kernel, rfl, by decide +kernel, by decide +kernel⟩
theorem c_Desk_put (T : Txt w K mg) : CalM w K mg base CX0 1 (He.ga K "Desk") "put" ["self", "name", "program"] (spPut K) := by
  obtain ⟨fd, F⟩ := T.d_Desk_put
  refine ⟨fd, _, T.m_Desk_put, F.bindsN fun _ _ _ _ _ _ us hl => match us, hl with | [_, _, _], _ => rfl, ?_⟩
  refine F.ok sc_Desk_put (fun vs H Q E h => ?_) (fun cdv A outer s H vs Q E hr h => ?_)
  · obtain ⟨p, dk, dp, N, f, hist, n, v, o, rfl, _⟩ := h
    rfl
  · obtain ⟨p, dk, dp, N, f, hist, n, v, o, rfl, hD, ho, hn, hN, k⟩ := h
    obtain ⟨dx, kvs, g, xs, a1, a2, a3, a4, a5, a6⟩ := id hD
    have hu := hu_of hr
    refine ⟨_, pss_one (ps_if (pt_cmpR op_isN (pv 2) pe_non (nomark _)) (pss_one (ps_expr (pe_dpop2 (pe_fld (pv 0) rfl) (pv 1) pe_non ⟨rfl, rfl, rfl, rfl⟩))) (pss_one (ps_dput hu (pe_fld (pv 0) rfl) (pv 1) (pv 2) rfl))), ?_⟩
    have hlen := a4.len
    have fin : ∀ (kvs' : List (Key × V)) (g' : Str → Option V), KD kvs' N g' → (∀ m, OptAt K H (g' m) (fset f n o m)) → Q .non (upd H dk (.dK kvs')) := fun kvs' g' h1 h2 => by
      have s : KTI H (upd H dk (.dK kvs')) := KTI.dk a2
      refine k _ (fun b o hb e => by rw [upd_ne hb]; exact e) ⟨dx, kvs', g', xs, s.i _ _ _ _ a1, upd_same, ?_, h1, fun m => OptAt.kti s (h2 m), PastAt.kti s a6⟩
      rw [upd_ne (ne_of a3 a2 (by intro z; cases z))]
      exact a3
    refine ⟨_, rfl, rfl, _, rfl, ?_⟩
    cases o with
    | none =>
      have hv : v = none := ho
      subst hv
      refine ite_t (decide_eq_true rfl) ?_
      refine ⟨_, rfl, p, _, dx, _, _, rfl, a1, T.cl_Desk, T.no_Desk_kept, deskF_kept _ _, dk, rfl, .inl ⟨kvs, .of a2⟩, _, rfl, kvs, Sum.inr n, a2, rfl, fun v hv => ?_, fun hv => ?_⟩
      · refine fin _ _ (a4.drop n) fun m => ?_
        show OptAt K H (if m = n then none else g m) (if m = n then none else f m)
        by_cases em : m = n
        · rw [if_pos em, if_pos em]
          rfl
        · rw [if_neg em, if_neg em]
          exact a5 m
      · refine k H (fun b o _ e => e) ⟨dx, kvs, g, xs, a1, a2, a3, a4, fun m => ?_, a6⟩
        show OptAt K H (g m) (if m = n then none else f m)
        by_cases em : m = n
        · rw [if_pos em, em, ← a4.at_ n]
          exact hv
        · rw [if_neg em]
          exact a5 m
    | some P =>
      obtain ⟨a, rfl, hP, tP⟩ := id ho
      refine ite_f (decide_eq_false (by intro e; cases e)) ?_
      refine ⟨_, rfl, _, rfl, p, _, dx, _, _, rfl, a1, T.cl_Desk, T.no_Desk_kept, deskF_kept _ _, _, rfl, dk, _, rfl, DPut.k (k := Sum.inr n) a2 (Nat.lt_of_le_of_lt (Nat.le_trans hlen hN) (by decide)), ?_⟩
      refine fin _ _ (a4.put hn _) fun m => ?_
      show OptAt K H (if m = n then some (V.ref a) else g m) (if m = n then some P else f m)
      by_cases em : m = n
      · rw [if_pos em, if_pos em]
        exact ho
      · rw [if_neg em, if_neg em]
        exact a5 m
end
end L2.Dk
set_option Elab.async false
set_option linter.all false
set_option maxRecDepth 100000
set_option maxHeartbeats 4000000
/-! keep, undo, program_of, undoable. -/
namespace L2.Dk
open PySem PySem.Spec PyProof.Rows
open TL
section
variable {w : World} {K : PySem.W.Frag} {mg : Str → Option Value} {base : Heap}
def spKeep (K : PySem.W.Frag) : Sp := fun vs H Q _ => ∃ (p dk dp : Addr) (N : List Str) (f : Str → Option Parts) (hist : Past) (n : Str) (v : Option V) (o : Option Parts), vs = [.ref p, .str n, v.getD .non] ∧ DeskAt K H p dk dp N f hist ∧ OptAt K H v o ∧ n ∈ N ∧ N.length ≤ 20 ∧ hist.length ≤ 1000 ∧
  ∀ H', Off2 dk dp H H' → DeskAt K H' p dk dp N (fset f n o) (hist ++ [(n, f n)]) → Q .non H'
theorem sc_Desk_keep : FnScope ["self", "name", "program"] ["self", "name", "program"] (defScope s_Desk_keep) := ⟨rfl, rfl, rfl, by decide +kernel, rfl, by decide +kernel, by decide +kernel⟩
theorem c_Desk_keep (T : Txt w K mg) : CalM w K mg base CX0 2 (He.ga K "Desk") "keep" ["self", "name", "program"] (spKeep K) := by
  obtain ⟨fd, F⟩ := T.d_Desk_keep
  obtain ⟨fd1, f1, m1, b1, G1⟩ := c_Desk_put (base := base) T
  refine ⟨fd, _, T.m_Desk_keep, F.bindsN fun _ _ _ _ _ _ us hl => match us, hl with | [_, _, _], _ => rfl, ?_⟩
  refine F.ok sc_Desk_keep (fun vs H Q E h => ?_) (fun cdv A outer s H vs Q E hr h => ?_)
  · obtain ⟨p, dk, dp, N, f, hist, n, v, o, rfl, _⟩ := h
    rfl
  · obtain ⟨p, dk, dp, N, f, hist, n, v, o, rfl, hD, ho, hn, hN, hh, k⟩ := h
    obtain ⟨dx, kvs, g, xs, a1, a2, a3, a4, a5, a6⟩ := id hD
    have hu := hu_of hr
    refine ⟨_, pss_cons (ps_expr (pe_bm PySem.F.plainAttrs_list PySem.F.slot_list_append PySem.F.type_list_append mt_append (pe_fld (pv 0) rfl) (pa_cons (pe_tup (pa_cons (pv 1) (pa_cons (pe_dget1 hu (pe_fld (pv 0) rfl) (pv 1) ⟨rfl, rfl, rfl, rfl⟩) pa_nil))) pa_nil)))
      (pss_one (ps_expr (pe_meth (pv 0) T.cl_Desk m1 G1 hr b1 .nil pass0 (pa_cons (pv 1) (pa_cons (pv 2) pa_nil))))), ?_⟩
    refine ⟨_, rfl, p, _, dx, _, _, rfl, a1, T.cl_Desk, T.no_Desk_past, deskF_past _ _, .inl ⟨rfl, _, SqL.of a3⟩, ?_⟩
    refine ⟨_, rfl, _, rfl, p, _, dx, _, _, rfl, a1, T.cl_Desk, T.no_Desk_kept, deskF_kept _ _, dk, rfl, .inl ⟨kvs, .of a2⟩, _, rfl, _, DGet.k (k := Sum.inr n) a2, by show 2 ≤ sizeLine; decide, fun t ht => ?_⟩
    rw [a4.at_ n]
    have s1 : Same H (upd H t (.tup [.str n, (g n).getD .non])) := Same.new (Same.refl _) ht
    have d1 := hD.same s1
    have htt : upd H t (.tup [.str n, (g n).getD .non]) t = some (.tup [.str n, (g n).getD .non]) := upd_same
    have og := OptAt.kti (KTI.same s1) (a5 n)
    have o1 := OptAt.kti (KTI.same s1) ho
    have a3' := s1 _ _ a3
    generalize (upd H t (.tup [.str n, (g n).getD .non])) = H1 at *
    refine ⟨dp, _, _, rfl, rfl, a3', ?_, ?_⟩
    · rw [a6.1]
      exact Nat.lt_of_le_of_lt hh (by decide)
    have s2 : KTI H1 (upd H1 dp (.lst (xs ++ [.ref t]))) := KTI.lst a3'
    obtain ⟨dx', kvs', g', xs', c1, c2, c3, c4, c5, c6⟩ := d1
    rw [a3'] at c3
    injection c3 with c3
    injection c3 with c3
    subst c3
    have ndp : dk ≠ dp := ne_of c2 a3' (by intro z; cases z)
    have d2 : DeskAt K (upd H1 dp (.lst (xs ++ [.ref t]))) p dk dp N f (hist ++ [(n, f n)]) := ⟨dx', kvs', g', xs ++ [.ref t], s2.i _ _ _ _ c1, (upd_ne ndp).trans c2, upd_same, c4, fun m => OptAt.kti s2 (c5 m), PastAt.kti s2 (PastAt.snoc c6 htt og)⟩
    refine ⟨_, rfl, p, dx', _, rfl, s2.i _ _ _ _ c1, deskF_no _ _ (by decide +kernel) (by decide +kernel), _, rfl, _, rfl, ?_⟩
    refine ⟨p, dk, dp, N, f, hist ++ [(n, f n)], n, v, o, rfl, d2, OptAt.kti s2 o1, hn, hN, fun H' ho' d3 => ?_⟩
    refine k H' (fun b oo hb1 hb2 e => ho' _ _ hb1 ?_) d3
    rw [upd_ne hb2]
    exact s1 _ _ e
/-! ### undo -/
def spUndo (K : PySem.W.Frag) : Sp := fun vs H Q E => ∃ (p dk dp : Addr) (N : List Str) (f : Str → Option Parts) (hist : Past), vs = [.ref p] ∧ DeskAt K H p dk dp N f hist ∧ N.length ≤ 20 ∧
  (hist = [] → ∀ H', Same H H' → E (.ref (He.ga K "NothingDone")) none H') ∧
  (∀ hist' n o, hist = hist' ++ [(n, o)] → n ∈ N ∧ ∀ H', Off2 dk dp H H' → DeskAt K H' p dk dp N (fset f n o) hist' → Q .non H')
theorem sc_Desk_undo : FnScope ["self", "name", "program"] ["self"] (defScope s_Desk_undo) := ⟨rfl, rfl, rfl, by decide +kernel, rfl, by decide +kernel, by decide +kernel⟩
theorem list_end {α : Type} (l : List α) : l = [] ∨ ∃ r x, l = r ++ [x] := by
  rcases List.eq_nil_or_concat l with h | ⟨r, x, h⟩
  · exact .inl h
  · exact .inr ⟨r, x, by rw [h, List.concat_eq_append]⟩
theorem c_Desk_undo (T : Txt w K mg) : CalM w K mg base (L2.CX prg w) 2 (He.ga K "Desk") "undo" ["self"] (spUndo K) := by
  obtain ⟨fd, F⟩ := T.d_Desk_undo
  obtain ⟨fd1, f1, m1, b1, G1⟩ := c_Desk_put (base := base) T
  refine ⟨fd, _, T.m_Desk_undo, F.bindsN fun _ _ _ _ _ _ us hl => match us, hl with | [_], _ => rfl, ?_⟩
  refine F.ok sc_Desk_undo (fun vs H Q E h => ?_) (fun cdv A outer s H vs Q E hr h => ?_)
  · obtain ⟨p, dk, dp, N, f, hist, rfl, _⟩ := h
    rfl
  · obtain ⟨p, dk, dp, N, f, hist, rfl, hD, hN, ke, kq⟩ := h
    obtain ⟨dx, kvs, g, xs, a1, a2, a3, a4, a5, a6⟩ := id hD
    refine ⟨_, pss_cons (ps_if (pt_cmpR op_eq (pe_callB call_len (by rfl) T.f_len (by decide +kernel) (pa_cons (pe_fld (pv 0) rfl) pa_nil)) pe_int (nomark _))
        (pss_one (ps_raise rfl (takes_of rfl rfl rfl rfl) (pmk_err0 T.er_NothingDone S_NothingDone T.g_NothingDone T.f_super hr (by rfl)))) pss_nil)
      (pss_cons (ps_asg (pe_bm0 PySem.F.plainAttrs_list PySem.F.slot_list_pop PySem.F.type_list_pop mt_pop (pe_fld (pv 0) rfl)) (pg_tup rfl (pgs_cons (pg_name (i := 1) sc_Desk_undo.nd rfl (Or.inl rfl)) (pgs_cons (pg_name (i := 2) sc_Desk_undo.nd rfl (Or.inl rfl)) pgs_nil))))
      (pss_one (ps_expr (pe_meth (pv 0) T.cl_Desk m1 G1 hr b1 .nil pass0 (pa_cons (pv 1) (pa_cons (pv 2) pa_nil)))))), ?_⟩
    refine ⟨_, rfl, p, _, dx, _, _, rfl, a1, T.cl_Desk, T.no_Desk_past, deskF_past _ _, _, xs.length, rfl, .inl ⟨_, SqL.of a3, rfl⟩, rfl, _, rfl, ?_⟩
    rcases list_end hist with rfl | ⟨hist', ⟨n, o⟩, rfl⟩
    · refine ite_t (decide_eq_true (by rw [a6.1]; rfl)) ?_
      exact ke rfl H (Same.refl _)
    · have hl : xs.length = hist'.length + 1 := by rw [a6.1, List.length_append]; rfl
      refine ite_f (decide_eq_false (by intro e; have := V.int.inj e; omega)) ?_
      obtain ⟨t, v, hx, ht, ho, hP⟩ := PastAt.pop a6
      obtain ⟨hn, k⟩ := kq hist' n o rfl
      refine ⟨_, rfl, p, _, dx, _, _, rfl, a1, T.cl_Desk, T.no_Desk_past, deskF_past _ _, .inl ⟨rfl, _, SqL.of a3⟩, dp, _, _, rfl, rfl, a3, hx, ?_⟩
      have s2 : KTI H (upd H dp (.lst xs.dropLast)) := KTI.lst a3
      have ndp : dk ≠ dp := ne_of a2 a3 (by intro z; cases z)
      have d2 : DeskAt K (upd H dp (.lst xs.dropLast)) p dk dp N f hist' := ⟨dx, kvs, g, xs.dropLast, s2.i _ _ _ _ a1, (upd_ne ndp).trans a2, upd_same, a4, fun m => OptAt.kti s2 (a5 m), PastAt.kti s2 hP⟩
      refine ⟨t, _, rfl, SqT.of (s2.t _ _ ht), rfl, _, _, rfl, _, _, rfl, rfl, ?_⟩
      refine ⟨_, rfl, p, dx, _, rfl, s2.i _ _ _ _ a1, deskF_no _ _ (by decide +kernel) (by decide +kernel), _, rfl, _, rfl, ?_⟩
      refine ⟨p, dk, dp, N, f, hist', n, v, o, rfl, d2, OptAt.kti s2 ho, hn, hN, fun H' ho' d3 => ?_⟩
      refine k H' (fun b oo hb1 hb2 e => ho' _ _ hb1 ?_) d3
      rw [upd_ne hb2]
      exact e
/-! ### program_of -/
def spProgOf (K : PySem.W.Frag) : Sp := fun vs H Q _ => ∃ (p dk dp : Addr) (N : List Str) (f : Str → Option Parts) (hist : Past) (n : Str) (P : Parts), vs = [.ref p, .str n] ∧ DeskAt K H p dk dp N f hist ∧ f n = some P ∧ ∀ a, ProgAt K H a P → P.Tight → Q (.ref a) H
theorem sc_Desk_program_of : FnScope ["self", "name"] ["self", "name"] (defScope s_Desk_program_of) := ⟨rfl, rfl, rfl, by decide +kernel, rfl, by decide +kernel, by decide +kernel⟩
theorem c_Desk_program_of (T : Txt w K mg) : CalM w K mg base CX0 1 (He.ga K "Desk") "program_of" ["self", "name"] (spProgOf K) := by
  obtain ⟨fd, F⟩ := T.d_Desk_program_of
  refine ⟨fd, _, T.m_Desk_program_of, F.bindsN fun _ _ _ _ _ _ us hl => match us, hl with | [_, _], _ => rfl, ?_⟩
  refine F.ok sc_Desk_program_of (fun vs H Q E h => ?_) (fun cdv A outer s H vs Q E hr h => ?_)
  · obtain ⟨p, dk, dp, N, f, hist, n, P, rfl, _⟩ := h
    rfl
  · obtain ⟨p, dk, dp, N, f, hist, n, P, rfl, hD, hf, k⟩ := h
    obtain ⟨dx, kvs, g, xs, a1, a2, a3, a4, a5, a6⟩ := id hD
    have hu := hu_of hr
    refine ⟨_, pss_cons (ps_if (pt_cmp (pc_dnotin hu (pv 1) (pe_fld (pv 0) rfl))) pss_never pss_nil) (pss_one (ps_ret (pe_dget hu (pe_fld (pv 0) rfl) (pv 1) (fun _ _ => rfl)))), ?_⟩
    have o1 := a5 n
    rw [hf] at o1
    obtain ⟨a, hg, hP, tP⟩ := o1
    have hv : valV kvs (Sum.inr n) = some (.ref a) := (a4.at_ n).trans hg
    refine ⟨_, rfl, _, rfl, p, _, dx, _, _, rfl, a1, T.cl_Desk, T.no_Desk_kept, deskF_kept _ _, dk, _, rfl, DGet.k (k := Sum.inr n) a2, _, rfl, ?_⟩
    refine ite_f (by rw [hv]; rfl) ?_
    refine ⟨_, rfl, p, _, dx, _, _, rfl, a1, T.cl_Desk, T.no_Desk_kept, deskF_kept _ _, _, rfl, dk, .ref a, rfl, ?_, k a hP tP⟩
    rw [← hv]
    exact DGet.k (k := Sum.inr n) a2
/-! ### undoable -/
def spUndoable (K : PySem.W.Frag) : Sp := fun vs H Q _ => ∃ (p dk dp : Addr) (N : List Str) (f : Str → Option Parts) (hist : Past), vs = [.ref p] ∧ DeskAt K H p dk dp N f hist ∧ Q (.int (hist.length : Int)) H
theorem sc_Desk_undoable : FnScope ["self"] ["self"] (defScope s_Desk_undoable) := ⟨rfl, rfl, rfl, by decide +kernel, rfl, by decide +kernel, by decide +kernel⟩
theorem c_Desk_undoable (T : Txt w K mg) : CalM w K mg base CX0 1 (He.ga K "Desk") "undoable" ["self"] (spUndoable K) := by
  obtain ⟨fd, F⟩ := T.d_Desk_undoable
  refine ⟨fd, _, T.m_Desk_undoable, F.bindsN fun _ _ _ _ _ _ us hl => match us, hl with | [_], _ => rfl, ?_⟩
  refine F.ok sc_Desk_undoable (fun vs H Q E h => ?_) (fun cdv A outer s H vs Q E hr h => ?_)
  · obtain ⟨p, dk, dp, N, f, hist, rfl, _⟩ := h
    rfl
  · obtain ⟨p, dk, dp, N, f, hist, rfl, hD, k⟩ := h
    obtain ⟨dx, kvs, g, xs, a1, a2, a3, a4, a5, a6⟩ := id hD
    refine ⟨_, pss_one (ps_ret (pe_callB call_len (by rfl) T.f_len (by decide +kernel) (pa_cons (pe_fld (pv 0) rfl) pa_nil))), ?_⟩
    refine ⟨_, rfl, p, _, dx, _, _, rfl, a1, T.cl_Desk, T.no_Desk_past, deskF_past _ _, _, hist.length, rfl, .inl ⟨_, SqL.of a3, a6.1.symm⟩, k⟩
end
end L2.Dk
set_option Elab.async false
set_option linter.all false
set_option maxRecDepth 100000
set_option maxHeartbeats 4000000
/-! answer_of (a shown program), tell. -/
namespace L2.Dk
open PySem PySem.Spec PyProof.Rows
open TL
open CwR (pet_replC pst_ret pst_if psst_nil psst_one PET.of)
section
variable {w : World} {K : PySem.W.Frag} {mg : Str → Option Value} {base : Heap}
def spAnswer (K : PySem.W.Frag) : Sp := fun vs H Q _ => ∃ (a l : Addr) (P : Parts) (n : Str), vs = [.ref a, .ref l] ∧ ProgAt K H a P ∧ P.Tight ∧ H l = some (.lst [.str "show", .str n]) ∧ ∀ H', Same H H' → Q (.str (barT P)) H'
theorem sc_answer_of : FnScope ["program", "words", "word", "rest", "told"] ["program", "words"] (defScope s_answer_of) := ⟨rfl, rfl, rfl, by decide +kernel, rfl, by decide +kernel, by decide +kernel⟩
theorem bar_room {P : Parts} (t : P.Tight) : (prgT P).length + ((prgT P).length + 1) * ("|" : Str).length ≤ 16777216 := by
  have h := prg_len t
  have e : ("|" : Str).length = 1 := by decide +kernel
  rw [e]
  omega
theorem c_answer_of (T : Txt w K mg) : Cal w K mg base CX0 2 "answer_of" (He.ga K "answer_of") ["program", "words"] (spAnswer K) := by
  obtain ⟨fd, F⟩ := T.d_answer_of
  obtain ⟨fd1, g1, k1, b1, G1⟩ := c_program_text (base := base) T
  refine ⟨fd, T.g_answer_of, F.kp, F.bindsN fun _ _ _ _ _ _ us hl => match us, hl with | [_, _], _ => rfl, ?_⟩
  refine okT F sc_answer_of (by decide +kernel) (by decide) (fun vs H Q E h => ?_) (fun cdv A outer s H vs Q E hr h => ?_)
  · obtain ⟨a, l, P, n, rfl, _⟩ := h
    rfl
  · obtain ⟨a, l, P, n, rfl, hP, tP, hl, k⟩ := h
    refine ⟨_, psst_cons (PST.of (ps_par (i := 2) (j := 3) rfl sc_answer_of.nd rfl rfl (by decide) rfl rfl (pa_cons (pe_ix ix_list (pv 1) pe_int (fun _ _ => rfl)) (pa_cons (pe_slice sl_list (pv 1) (po_some pe_int) po_none) pa_nil)) (by rfl)))
      (psst_cons (pst_if (pt_cmpR op_eq (pv 2) pe_str (nomark _)) (psst_one (pst_ret (pet_replC (pe_call G1 hr (by rfl) g1 k1 b1 .nil pass0 (pa_cons (pv 0) pa_nil))))) psst_nil) (PSsT.of pss_never)), ?_⟩
    refine ⟨_, rfl, l, _, _, V.str "show", rfl, rfl, SqL.of hl, atI_nat (j := 0) rfl, _, rfl, 2, rfl, l, _, rfl, SqL.of hl, fun p hp => ?_⟩
    have s1 : Same H (upd H p (.lst (cutV [V.str "show", V.str n] (some 2) none))) := Same.new (Same.refl _) hp
    generalize (upd H p (.lst (cutV [V.str "show", V.str n] (some 2) none))) = H1 at *
    refine ⟨_, _, rfl, _, rfl, rfl, _, rfl, ?_⟩
    refine ite_t (decide_eq_true rfl) ?_
    refine ⟨_, rfl, a, P, rfl, tP, ProgAt.same s1 hP, fun H' s2 => ?_⟩
    exact ⟨_, rfl, bar_room tP, k _ (Same.trans s1 s2)⟩
/-! ### tell -/
/-- what `names` tells -/
def NamesT (f : Str → Option Parts) (t : Str) : Prop := ∃ ys : List Str, sortedS ys = true ∧ ys.Nodup ∧ (∀ n, n ∈ ys ↔ (f n).isSome = true) ∧ t = (if ys = [] then ("none" : Str) else Txt.join " " ys)
theorem NamesT.uniq {f f' : Str → Option Parts} {t t' : Str} (h : NamesT f t) (h' : NamesT f' t') (e : ∀ n, (f n).isSome = (f' n).isSome) : t = t' := by
  obtain ⟨ys, a1, a2, a3, rfl⟩ := h
  obtain ⟨zs, b1, b2, b3, rfl⟩ := h'
  have : ys = zs := sorted_eq (List.Perm.refl _) (List.Perm.refl _) (nodup_perm a2 b2 fun n => by rw [a3, b3, e]) a1 b1
  rw [this]
/-- a line, what is asked of the desk, what tell does -/
def TellDo (K : PySem.W.Frag) (H : Hp) (p dk dp : Addr) (N : List Str) (f : Str → Option Parts) (hist : Past) (z : Str) (Q : VK) (E : XK) : Prop :=
  (Says z none ∧ ∀ H', Same H H' → E (.ref (He.ga K "NoLine")) none H') ∨
  (z = "names" ∧ ∀ H' t, Same H H' → NamesT f t → Q (.str t) H') ∨
  (z = "undo" ∧ (hist = [] → ∀ H', Same H H' → E (.ref (He.ga K "NothingDone")) none H') ∧ (∀ hist' n o, hist = hist' ++ [(n, o)] → n ∈ N ∧ ∀ H', Off2 dk dp H H' → DeskAt K H' p dk dp N (fset f n o) hist' → Q (.str "ok") H')) ∨
  (∃ n P, z = lineProg n (barT P) ∧ Nm n ∧ n ∈ N ∧ P.Tight ∧ ∀ H', Off2 dk dp H H' → DeskAt K H' p dk dp N (fset f n (some P)) (hist ++ [(n, f n)]) → Q (.str "ok") H') ∨
  (∃ n, z = lineProg n "x" ∧ Nm n ∧ ∀ H' d, Same H H' → H' d = some (.xd [("line", .int 1)]) → E (.ref (He.ga K "BadText")) (some d) H') ∨
  (∃ n P, z = lineDrop n ∧ Nm n ∧ n ∈ N ∧ f n = some P ∧ ∀ H', Off2 dk dp H H' → DeskAt K H' p dk dp N (fset f n none) (hist ++ [(n, f n)]) → Q (.str "ok") H') ∨
  (∃ n P, z = lineShow n ∧ Nm n ∧ f n = some P ∧ ∀ H', Same H H' → Q (.str (barT P)) H')
def spTell (K : PySem.W.Frag) : Sp := fun vs H Q E => ∃ (p dk dp : Addr) (N : List Str) (f : Str → Option Parts) (hist : Past) (z : Str), vs = [.ref p, .str z] ∧ DeskAt K H p dk dp N f hist ∧ N.length ≤ 20 ∧ (∀ n ∈ N, Nm n) ∧ hist.length ≤ 1000 ∧ TellDo K H p dk dp N f hist z Q E
theorem sc_Desk_tell : FnScope ["self", "line", "words", "program"] ["self", "line"] (defScope s_Desk_tell) := ⟨rfl, rfl, rfl, by decide +kernel, rfl, by decide +kernel, by decide +kernel⟩
theorem says_bar {n : Str} {P : Parts} (h : Nm n) (t : P.Tight) : Says (lineProg n (barT P)) (some [("program" : Str), n, barT P]) :=
  says_prog h (fun e => bar_ne P (e.trans (by decide +kernel))) (bar_free P) (Nat.le_trans (bar_len t) (by decide))
theorem says_x {n : Str} (h : Nm n) : Says (lineProg n "x") (some [("program" : Str), n, "x"]) := says_prog h (by decide +kernel) (by decide +kernel) (by decide +kernel)
theorem join_ne {ys : List Str} (h : ys ≠ []) (hn : ∀ n ∈ ys, Nm n) : ((Txt.join " " ys).length : Int) ≠ 0 := by
  rw [join_eq, len_tl, tl_join]
  cases ys with
  | nil => exact absurd rfl h
  | cons y r =>
    have h1 := (hn y (List.mem_cons_self ..)).lo
    rw [len_tl] at h1
    cases r with
    | nil =>
      show ((tl y).length : Int) ≠ 0
      omega
    | cons z s =>
      show ((tl y ++ _).length : Int) ≠ 0
      rw [List.length_append]
      omega
theorem join_len {ys : List Str} (hn : ∀ n ∈ ys, n.length ≤ 8) (hl : ys.length ≤ 20) : (Txt.join " " ys).length ≤ 200 := by
  rw [join_eq, len_tl, tl_join]
  have e : tl (" " : Str) = [32] := by decide +kernel
  rw [e]
  have := len_joinL (S := [32]) (m := 8) (ps := ys.map tl) fun q hq => by
    obtain ⟨z, hz, rfl⟩ := List.mem_map.mp hq
    rw [← len_tl]
    exact hn z hz
  rw [List.length_map] at this
  have : ys.length * (8 + [32].length) ≤ 20 * 9 := Nat.mul_le_mul hl (Nat.le_refl _)
  omega
theorem back_room {P : Parts} (t : P.Tight) : (barT P).length + ((barT P).length + 1) * ("\n" : Str).length ≤ 16777216 := by
  have h := bar_len t
  have e : ("\n" : Str).length = 1 := by decide +kernel
  rw [e]
  omega
theorem c_Desk_tell (T : Txt w K mg) : CalM w K mg base (L2.CX prg w) 9 (He.ga K "Desk") "tell" ["self", "line"] (spTell K) := by
  obtain ⟨fd, F⟩ := T.d_Desk_tell
  obtain ⟨fd1, g1, k1, b1, G1⟩ := c_told_words (base := base) T
  obtain ⟨fd2, f2, m2, b2, G2⟩ := c_Desk_undo (base := base) T
  obtain ⟨fd3, f3, m3, b3, G3⟩ := c_Desk_keep (base := base) T
  obtain ⟨fd4, f4, m4, b4, G4⟩ := c_Desk_program_of (base := base) T
  obtain ⟨fd5, g5, k5, b5, G5⟩ := c_read_program (base := base) T
  obtain ⟨fd6, g6, k6, b6, G6⟩ := c_answer_of (base := base) T
  refine ⟨fd, _, T.m_Desk_tell, F.bindsN fun _ _ _ _ _ _ us hl => match us, hl with | [_, _], _ => rfl, ?_⟩
  refine F.ok sc_Desk_tell (fun vs H Q E h => ?_) (fun cdv A outer s H vs Q E hr h => ?_)
  · obtain ⟨p, dk, dp, N, f, hist, z, rfl, _⟩ := h
    rfl
  · obtain ⟨p, dk, dp, N, f, hist, z, rfl, hD, hN, hNm, hh, hT⟩ := h
    refine ⟨_, pss_cons (ps_set (i := 2) sc_Desk_tell.nd rfl (Or.inl rfl) (pe_call G1 (hr.mono (by decide)) (by rfl) g1 k1 b1 .nil (passes_call (takes_of rfl rfl rfl rfl) (fun _ _ _ _ h => h)) (pa_cons (pv 1) pa_nil)))
      (pss_cons (ps_if (pt_cmpR op_eq (pe_ix ix_list (pv 2) pe_int (fun _ _ => rfl)) pe_str (nomark _)) (pss_one (ps_ret (pe_orT (pe_join pe_str (pe_callB (call_sortedD rfl) (by rfl) T.f_sorted (by decide +kernel) (pa_cons (pe_fld (pv 0) rfl) pa_nil))) (pe_one pe_str)))) pss_nil)
      (pss_cons (ps_if (pt_cmpR op_eq (pe_ix ix_list (pv 2) pe_int (fun _ _ => rfl)) pe_str (nomark _)) (pss_cons (ps_expr (pe_meth0 (pv 0) T.cl_Desk m2 G2 (hr.mono (by decide)) b2 .nil (passes_call (takes_of rfl rfl rfl rfl) (fun _ _ _ _ h => h)))) (pss_one (ps_ret pe_str))) pss_nil)
      (pss_cons (ps_if (pt_cmpR op_eq (pe_ix ix_list (pv 2) pe_int (fun _ _ => rfl)) pe_str (nomark _)) (pss_cons (ps_expr (pe_meth (pv 0) T.cl_Desk m3 G3 (hr.mono (by decide)) b3 .nil pass0 (pa_cons (pe_ix ix_list (pv 2) pe_int (fun _ _ => rfl))
          (pa_cons (pe_call G5 (hr.mono (by decide)) (by rfl) g5 k5 b5 .nil (passes_call (takes_of rfl rfl rfl rfl) (fun _ _ _ _ h => h)) (pa_cons (pe_replIx ix_list (pv 2) (fun _ _ => rfl)) pa_nil)) pa_nil)))) (pss_one (ps_ret pe_str))) pss_nil)
      (pss_cons (ps_set (i := 3) sc_Desk_tell.nd rfl (Or.inl rfl) (pe_meth (pv 0) T.cl_Desk m4 G4 (hr.mono (by decide)) b4 .nil pass0 (pa_cons (pe_ix ix_list (pv 2) pe_int (fun _ _ => rfl)) pa_nil)))
      (pss_cons (ps_if (pt_cmpR op_eq (pe_ix ix_list (pv 2) pe_int (fun _ _ => rfl)) pe_str (nomark _)) (pss_cons (ps_expr (pe_meth (pv 0) T.cl_Desk m3 G3 (hr.mono (by decide)) b3 .nil pass0 (pa_cons (pe_ix ix_list (pv 2) pe_int (fun _ _ => rfl)) (pa_cons pe_non pa_nil)))) (pss_one (ps_ret pe_str))) pss_nil)
      (pss_one (ps_ret (pe_call G6 (hr.mono (by decide)) (by rfl) g6 k6 b6 .nil pass0 (pa_cons (pv 3) (pa_cons (pv 2) pa_nil)))))))))), ?_⟩
    have no : ∀ {a b : Str}, a ≠ b → decide (V.str a = V.str b) = false := fun h => decide_eq_false fun e => h (V.str.inj e)
    rcases hT with ⟨S, k⟩ | ⟨rfl, k⟩ | ⟨rfl, ke, kq⟩ | ⟨n, P, rfl, hn, hnN, tP, k⟩ | ⟨n, rfl, hn, k⟩ | ⟨n, P, rfl, hn, hnN, hf, k⟩ | ⟨n, P, rfl, hn, hf, k⟩
    · exact ⟨_, rfl, z, none, rfl, S.t, S.nl, S.len, (fun ws e => by cases e), fun _ H1 s1 => k H1 s1⟩
    · refine ⟨_, rfl, _, _, rfl, says_names.t, says_names.nl, says_names.len, fun ws e H1 l s1 hl h1 => ?_, fun e => by cases e⟩
      cases e
      refine ⟨_, rfl, l, _, _, V.str "names", rfl, rfl, SqL.of h1, atI_nat (j := 0) rfl, rfl, _, rfl, ?_⟩
      refine ite_t (decide_eq_true rfl) ?_
      obtain ⟨dx, kvs, g, xs, a1, a2, a3, a4, a5, a6⟩ := hD.same s1
      obtain ⟨ns, en, nd, hs⟩ := a4.keys
      have hlen : ns.length ≤ N.length := nodup_len nd hs
      refine ⟨⟨_, rfl⟩, _, rfl, p, _, dx, _, _, rfl, a1, T.cl_Desk, T.no_Desk_kept, deskF_kept _ _, dk, kvs, ns, rfl, .of a2, en, Nat.lt_of_le_of_lt (Nat.le_trans hlen hN) (by decide), fun ys q perm srt hq => ?_⟩
      have hyN : ∀ n ∈ ys, Nm n := fun n hn => hNm n (hs n (perm.mem_iff.mp hn))
      have hyl : ys.length ≤ 20 := by rw [perm.length_eq]; exact Nat.le_trans hlen hN
      have jl := join_len (fun n hn => (hyN n hn).hi) hyl
      have s2 : Same H (upd H1 q (.lst (ys.map V.str))) := Same.new s1 hq
      have nt : NamesT f (if ys = [] then ("none" : Str) else Txt.join " " ys) := ⟨ys, srt, perm.nodup_iff.mpr nd, fun n => by rw [perm.mem_iff, a4.mem en, (a5 n).none_iff], rfl⟩
      have kk := k _ _ s2 nt
      refine ⟨_, q, ys, rfl, rfl, .inl (SqL.of upd_same), ?_, _, ⟨Nat.le_trans jl (by decide), rfl⟩, ?_⟩
      · have h6 := sum_le (ys := ys) (m := 8) fun n hn => (hyN n hn).hi
        have h8 : (" " : Str).length = 1 := by decide +kernel
        rw [h8]
        omega
      · by_cases hy : ys = []
        · subst hy
          rw [if_pos rfl] at kk
          exact ite_f (by decide +kernel) kk
        · rw [if_neg hy] at kk
          exact ite_t (bne_iff_ne.mpr (join_ne hy hyN)) kk
    · refine ⟨_, rfl, _, _, rfl, says_undo.t, says_undo.nl, says_undo.len, fun ws e H1 l s1 hl h1 => ?_, fun e => by cases e⟩
      cases e
      refine ⟨_, rfl, l, _, _, V.str "undo", rfl, rfl, SqL.of h1, atI_nat (j := 0) rfl, rfl, _, rfl, ?_⟩
      refine ite_f (no (by decide +kernel)) ?_
      refine ⟨_, rfl, l, _, _, V.str "undo", rfl, rfl, SqL.of h1, atI_nat (j := 0) rfl, rfl, _, rfl, ?_⟩
      refine ite_t (decide_eq_true rfl) ?_
      have d1 := hD.same s1
      obtain ⟨dx, kvs, g, xs, a1, a2, a3, a4, a5, a6⟩ := id d1
      refine ⟨_, rfl, p, dx, _, rfl, a1, deskF_no _ _ (by decide +kernel) (by decide +kernel), p, dk, dp, N, f, hist, rfl, d1, hN, fun e H2 s2 => ke e H2 (Same.trans s1 s2), fun hist' n o e => ?_⟩
      obtain ⟨hnN, k⟩ := kq hist' n o e
      exact ⟨hnN, fun H2 o2 d2 => k H2 (fun b oo hb1 hb2 e => o2 _ _ hb1 hb2 (s1 _ _ e)) d2⟩
    · have S := says_bar (P := P) hn tP
      refine ⟨_, rfl, _, _, rfl, S.t, S.nl, S.len, fun ws e H1 l s1 hl h1 => ?_, fun e => by cases e⟩
      cases e
      refine ⟨_, rfl, l, _, _, V.str "program", rfl, rfl, SqL.of h1, atI_nat (j := 0) rfl, rfl, _, rfl, ?_⟩
      refine ite_f (no (by decide +kernel)) ?_
      refine ⟨_, rfl, l, _, _, V.str "program", rfl, rfl, SqL.of h1, atI_nat (j := 0) rfl, rfl, _, rfl, ?_⟩
      refine ite_f (no (by decide +kernel)) ?_
      refine ⟨_, rfl, l, _, _, V.str "program", rfl, rfl, SqL.of h1, atI_nat (j := 0) rfl, rfl, _, rfl, ?_⟩
      refine ite_t (decide_eq_true rfl) ?_
      have d1 := hD.same s1
      obtain ⟨dx, kvs, g, xs, a1, a2, a3, a4, a5, a6⟩ := id d1
      refine ⟨_, rfl, p, dx, _, rfl, a1, deskF_no _ _ (by decide +kernel) (by decide +kernel), _, rfl, l, _, _, V.str n, rfl, rfl, SqL.of h1, atI_nat (j := 1) rfl, ?_⟩
      refine ⟨_, rfl, l, _, _, V.str (barT P), rfl, rfl, SqL.of h1, atI_nat (j := 2) rfl, _, rfl, back_room tP, ?_⟩
      refine ⟨_, rfl, .inl ⟨P, tP, bar_back tP, fun H2 a s2 hP => ?_⟩⟩
      refine ⟨p, dk, dp, N, f, hist, n, some (.ref a), some P, rfl, d1.same s2, ⟨a, rfl, hP, tP⟩, hnN, hN, hh, fun H3 o3 d3 => ?_⟩
      exact k H3 (fun b oo hb1 hb2 e => o3 _ _ hb1 hb2 (s2 _ _ (s1 _ _ e))) d3
    · have S := says_x hn
      refine ⟨_, rfl, _, _, rfl, S.t, S.nl, S.len, fun ws e H1 l s1 hl h1 => ?_, fun e => by cases e⟩
      cases e
      refine ⟨_, rfl, l, _, _, V.str "program", rfl, rfl, SqL.of h1, atI_nat (j := 0) rfl, rfl, _, rfl, ?_⟩
      refine ite_f (no (by decide +kernel)) ?_
      refine ⟨_, rfl, l, _, _, V.str "program", rfl, rfl, SqL.of h1, atI_nat (j := 0) rfl, rfl, _, rfl, ?_⟩
      refine ite_f (no (by decide +kernel)) ?_
      refine ⟨_, rfl, l, _, _, V.str "program", rfl, rfl, SqL.of h1, atI_nat (j := 0) rfl, rfl, _, rfl, ?_⟩
      refine ite_t (decide_eq_true rfl) ?_
      have d1 := hD.same s1
      obtain ⟨dx, kvs, g, xs, a1, a2, a3, a4, a5, a6⟩ := id d1
      refine ⟨_, rfl, p, dx, _, rfl, a1, deskF_no _ _ (by decide +kernel) (by decide +kernel), _, rfl, l, _, _, V.str n, rfl, rfl, SqL.of h1, atI_nat (j := 1) rfl, ?_⟩
      refine ⟨_, rfl, l, _, _, V.str "x", rfl, rfl, SqL.of h1, atI_nat (j := 2) rfl, _, rfl, by decide +kernel, ?_⟩
      refine ⟨_, rfl, .inr ⟨by decide +kernel, fun H2 d s2 hd => ?_⟩⟩
      exact k H2 d (Same.trans s1 s2) hd
    · have S := says_drop hn
      refine ⟨_, rfl, _, _, rfl, S.t, S.nl, S.len, fun ws e H1 l s1 hl h1 => ?_, fun e => by cases e⟩
      cases e
      refine ⟨_, rfl, l, _, _, V.str "drop", rfl, rfl, SqL.of h1, atI_nat (j := 0) rfl, rfl, _, rfl, ?_⟩
      refine ite_f (no (by decide +kernel)) ?_
      refine ⟨_, rfl, l, _, _, V.str "drop", rfl, rfl, SqL.of h1, atI_nat (j := 0) rfl, rfl, _, rfl, ?_⟩
      refine ite_f (no (by decide +kernel)) ?_
      refine ⟨_, rfl, l, _, _, V.str "drop", rfl, rfl, SqL.of h1, atI_nat (j := 0) rfl, rfl, _, rfl, ?_⟩
      refine ite_f (no (by decide +kernel)) ?_
      have d1 := hD.same s1
      obtain ⟨dx, kvs, g, xs, a1, a2, a3, a4, a5, a6⟩ := id d1
      refine ⟨_, rfl, p, dx, _, rfl, a1, deskF_no _ _ (by decide +kernel) (by decide +kernel), _, rfl, l, _, _, V.str n, rfl, rfl, SqL.of h1, atI_nat (j := 1) rfl, ?_⟩
      refine ⟨p, dk, dp, N, f, hist, n, P, rfl, d1, hf, fun a hP tP => ?_⟩
      refine ⟨_, rfl, l, _, _, V.str "drop", rfl, rfl, SqL.of h1, atI_nat (j := 0) rfl, rfl, _, rfl, ?_⟩
      refine ite_t (decide_eq_true rfl) ?_
      refine ⟨_, rfl, p, dx, _, rfl, a1, deskF_no _ _ (by decide +kernel) (by decide +kernel), _, rfl, l, _, _, V.str n, rfl, rfl, SqL.of h1, atI_nat (j := 1) rfl, ?_⟩
      refine ⟨p, dk, dp, N, f, hist, n, none, none, rfl, d1, rfl, hnN, hN, hh, fun H3 o3 d3 => ?_⟩
      exact k H3 (fun b oo hb1 hb2 e => o3 _ _ hb1 hb2 (s1 _ _ e)) d3
    · have S := says_show hn
      refine ⟨_, rfl, _, _, rfl, S.t, S.nl, S.len, fun ws e H1 l s1 hl h1 => ?_, fun e => by cases e⟩
      cases e
      refine ⟨_, rfl, l, _, _, V.str "show", rfl, rfl, SqL.of h1, atI_nat (j := 0) rfl, rfl, _, rfl, ?_⟩
      refine ite_f (no (by decide +kernel)) ?_
      refine ⟨_, rfl, l, _, _, V.str "show", rfl, rfl, SqL.of h1, atI_nat (j := 0) rfl, rfl, _, rfl, ?_⟩
      refine ite_f (no (by decide +kernel)) ?_
      refine ⟨_, rfl, l, _, _, V.str "show", rfl, rfl, SqL.of h1, atI_nat (j := 0) rfl, rfl, _, rfl, ?_⟩
      refine ite_f (no (by decide +kernel)) ?_
      have d1 := hD.same s1
      obtain ⟨dx, kvs, g, xs, a1, a2, a3, a4, a5, a6⟩ := id d1
      refine ⟨_, rfl, p, dx, _, rfl, a1, deskF_no _ _ (by decide +kernel) (by decide +kernel), _, rfl, l, _, _, V.str n, rfl, rfl, SqL.of h1, atI_nat (j := 1) rfl, ?_⟩
      refine ⟨p, dk, dp, N, f, hist, n, P, rfl, d1, hf, fun a hP tP => ?_⟩
      refine ⟨_, rfl, l, _, _, V.str "show", rfl, rfl, SqL.of h1, atI_nat (j := 0) rfl, rfl, _, rfl, ?_⟩
      refine ite_f (no (by decide +kernel)) ?_
      exact ⟨_, rfl, _, rfl, a, l, P, n, rfl, hP, tP, h1, fun H2 s2 => k H2 (Same.trans s1 s2)⟩
end
end L2.Dk
set_option Elab.async false
set_option linter.all false
set_option maxRecDepth 100000
set_option maxHeartbeats 4000000
/-! The law's draws. -/
namespace L2.Dk
open PySem PySem.Spec PyProof.Rows
open TL
/-- the pool at p, its numbers at c -/
def PoolAt (H : Hp) (p c : Addr) : Prop := ∃ (s k : Int) (ns : List Int), H p = some (.lst [.int s, .int k, .ref c]) ∧ H c = some (.lst (ns.map V.int))
theorem PoolAt.same {H H' : Hp} {p c : Addr} (s : Same H H') (h : PoolAt H p c) : PoolAt H' p c := by
  obtain ⟨a, b, ns, h1, h2⟩ := h
  exact ⟨a, b, ns, s _ _ h1, s _ _ h2⟩
theorem PoolAt.ne {H : Hp} {p c : Addr} (h : PoolAt H p c) : p ≠ c := by
  obtain ⟨a, b, ns, h1, h2⟩ := h
  intro e
  rw [e, h2] at h1
  injection h1 with h1
  injection h1 with h1
  match ns, h1 with
  | [_, _, _], h1 =>
    simp at h1
theorem ixN_zero {n : Nat} : ixN (n + 1) 0 = some 0 := by
  unfold ixN
  rw [if_pos (by decide), if_pos (by omega)]
  rfl
theorem cut_to {xs : List V} (k : Nat) : cutV xs none (some (k : Int)) = xs.take k := by
  unfold cutV
  rw [HT.sIx_nat, HT.sIx_none]
  simp only [List.drop_zero, Nat.sub_zero]
  by_cases h : k ≤ xs.length
  · rw [Nat.min_eq_left h]
  · rw [Nat.min_eq_right (by omega), List.take_of_length_le (Nat.le_refl _), List.take_of_length_le (by omega)]
section
variable {w : World} {K : PySem.W.Frag} {mg : Str → Option Value} {base : Heap}
/-! ### the pool is made -/
def spPool (K : PySem.W.Frag) : Sp := fun vs H Q _ => ∃ (a : Addr) (ns : List Int), vs = [.ref a] ∧ SqL K H a (ns.map V.int) ∧ ns.length ≤ 63 ∧ ∀ H' p c, Same H H' → H p = none → H c = none → PoolAt H' p c → Q (.ref p) H'
theorem sc_law_pool : FnScope ["_law_script", "_law_seed", "_law_cell"] ["_law_script"] (defScope s_law_pool) := ⟨rfl, rfl, rfl, by decide +kernel, rfl, by decide +kernel, by decide +kernel⟩
theorem c_law_pool (T : Txt w K mg) : Cal w K mg base CX0 1 "_law_pool" (He.ga K "_law_pool") ["_law_script"] (spPool K) := by
  obtain ⟨fd, F⟩ := T.d_law_pool
  refine ⟨fd, T.g_law_pool, F.kp, F.bindsN fun _ _ _ _ _ _ us hl => match us, hl with | [_], _ => rfl, ?_⟩
  refine F.ok sc_law_pool (fun vs H Q E h => ?_) (fun cdv A outer s H vs Q E hr h => ?_)
  · obtain ⟨a, ns, rfl, _⟩ := h
    rfl
  · obtain ⟨a, ns, rfl, hS, hl, k⟩ := h
    have cut63 : cutV (ns.map V.int) none (some 63) = ns.map V.int := Eq.trans (cut_to 63) (List.take_of_length_le (by rw [List.length_map]; exact hl))
    have cut1 : cutV (ns.map V.int) none (some 1) = (ns.take 1).map V.int := Eq.trans (cut_to 1) List.map_take.symm
    refine ⟨_, PSs.nox (pss_cons (ps_set (i := 1) sc_law_pool.nd rfl (Or.inl rfl) (pe_op op_add (pe_op op_add (pe_op op_mod (pe_callTy call_int1 (by rfl) T.f_int (by decide +kernel) (pa_cons (pe_callB (cr_sum rfl) (by rfl) T.f_sum (by decide +kernel) (pa_cons (pe_slice sl_list (pv 0) po_none (po_some pe_int)) pa_nil)) pa_nil)) pe_int)
          (pe_callB call_len (by rfl) T.f_len (by decide +kernel) (pa_cons (pv 0) pa_nil))) pe_int))
      (pss_cons (ps_for PassesOwn.never rfl (pi_list (pe_slice sl_list (pv 0) po_none (po_some pe_int))) (pg_name (i := 2) sc_law_pool.nd rfl (Or.inl rfl))
        (pss_one (ps_set (i := 1) sc_law_pool.nd rfl (Or.inl rfl) (pe_op op_mod (pe_callTy call_int1 (by rfl) T.f_int (by decide +kernel) (pa_cons (pe_op op_add (pe_op op_add (pe_op op_mul (pv 1) pe_int) (pe_op op_mod (pe_callTy call_int1 (by rfl) T.f_int (by decide +kernel) (pa_cons (pv 2) pa_nil)) pe_int)) pe_int) pa_nil)) pe_int))))
      (pss_one (ps_ret (pe_lst (pa_cons (pv 1) (pa_cons pe_int (pa_cons (pe_lc (own := [("_law_cell", 2)]) (g := gName 2) rfl sc_law_pool.nd (pi_list (pe_slice sl_list (pv 0) po_none (po_some pe_int))) (blkOk_by (N := ["_law_script", "_law_seed", "_law_cell"]) (sc := defScope s_law_pool) (by decide +kernel))
          (fun _ _ _ _ _ => pg_name (i := 2) sc_law_pool.nd rfl (Or.inl rfl)) (fun _ _ _ _ _ => pts_one (pt_cmpR op_ge (pe_callB call_abs (by rfl) T.f_abs (by decide +kernel) (pa_cons (pv 2) pa_nil)) (pe_op op_pow pe_int pe_int) (nomark _)))
          (fun _ _ _ _ _ => pe_callB call_abs (by rfl) T.f_abs (by decide +kernel) (pa_cons (pv 2) pa_nil))) pa_nil)))))))), ?_⟩
    refine ⟨_, rfl, 1, rfl, a, _, rfl, hS, fun l1 hl1 => ?_⟩
    have s1 : Same H (upd H l1 (.lst (cutV (ns.map V.int) none (some 1)))) := Same.new (Same.refl _) hl1
    have e1 : (upd H l1 (.lst (cutV (ns.map V.int) none (some 1)))) l1 = some (.lst ((ns.take 1).map V.int)) := by rw [upd_same, cut1]
    generalize (upd H l1 (.lst (cutV (ns.map V.int) none (some 1)))) = H1 at *
    refine ⟨l1, ns.take 1, rfl, SqL.of e1, .inl ⟨_, rfl, ?_⟩⟩
    refine ⟨_, _, rfl, rfl, (by show (0 : Int) < 1000003; decide), _, rfl, _, ns.length, rfl, .inl ⟨_, Same.seq s1 hS, by simp⟩, _, _, rfl, rfl, _, _, rfl, rfl, ?_⟩
    refine ⟨_, rfl, 63, rfl, a, _, rfl, Same.seq s1 hS, fun l2 hl2 => ?_⟩
    have s2 : Same H (upd H1 l2 (.lst (cutV (ns.map V.int) none (some 63)))) := Same.new s1 hl2
    have e2 : (upd H1 l2 (.lst (cutV (ns.map V.int) none (some 63)))) l2 = some (.lst (ns.map V.int)) := by rw [upd_same, cut63]
    generalize (upd H1 l2 (.lst (cutV (ns.map V.int) none (some 63)))) = H2 at *
    refine ⟨l2, rfl, ⟨_, SqL.of e2⟩, ?_⟩
    refine for_it (walk_list (K := K) (a := l2) (xs := ns.map V.int)) (fun i σ H' => ∃ (sd : Int) (v2 : Option V), σ = [some (.ref a), some (.int sd), v2] ∧ H' = H2 ∧ 0 ≤ sd ∧ sd < 4294967296) ⟨_, none, rfl, rfl, ?_, ?_⟩ (fun i σ H' _ h => ?_) (fun i x σ H3 H4 hi h y => ?_) (fun σ H' h => ?_)
    · have := Int.emod_nonneg (ns.take 1).sum (show (1000003 : Int) ≠ 0 by decide)
      omega
    · have := Int.emod_lt_of_pos (ns.take 1).sum (show (0 : Int) < 1000003 by decide)
      omega
    · obtain ⟨_, _, _, rfl, _⟩ := h
      exact SqL.of e2
    · obtain ⟨sd, v2, rfl, rfl, b1, b2⟩ := h
      obtain ⟨rfl, e⟩ := y
      obtain ⟨z, hz, rfl⟩ := int_at e
      refine ⟨_, rfl, _, _, rfl, rfl, .inl ⟨by omega, by omega⟩, _, rfl, .inl ⟨_, rfl, ?_⟩⟩
      refine ⟨_, _, rfl, rfl, (by show (0 : Int) < 2147483629; decide), _, _, rfl, rfl, _, _, rfl, rfl, .inl ⟨_, rfl, ?_⟩⟩
      refine ⟨_, _, rfl, rfl, (by show (0 : Int) < 2147483647; decide), _, _, rfl, rfl, ?_, ?_⟩
      · exact Int.emod_nonneg _ (by decide)
      · have := Int.emod_lt_of_pos (sd * 48271 + z % 2147483629 + 11) (show (0 : Int) < 2147483647 by decide)
        omega
    · obtain ⟨sd, v2, rfl, rfl, b1, b2⟩ := h
      refine ⟨_, rfl, ?_⟩
      refine ⟨_, rfl, 63, rfl, a, _, rfl, Same.seq s2 hS, fun l3 hl3 => ?_⟩
      have s3 : Same H (upd H' l3 (.lst (cutV (ns.map V.int) none (some 63)))) := Same.new s2 hl3
      have e3 : (upd H' l3 (.lst (cutV (ns.map V.int) none (some 63)))) l3 = some (.lst (ns.map V.int)) := by rw [upd_same, cut63]
      generalize (upd H' l3 (.lst (cutV (ns.map V.int) none (some 63)))) = H3 at *
      refine ⟨l3, rfl, ⟨_, SqL.of e3⟩, fun D hD => ?_⟩
      refine lc_it (walk_list (K := K) (a := l3) (xs := ns.map V.int)) (fun i H' => Same H3 H' ∧ ∃ ms : List Int, H' D = some (.lst (ms.map V.int)) ∧ ms.length ≤ i) ⟨Same.new (Same.refl _) hD, [], upd_same, Nat.le_refl _⟩ (fun i H' _ h => Same.seq h.1 (SqL.of e3)) (fun i x H4 H5 hi h y => ?_) (fun H' h => ?_)
      · obtain ⟨rfl, e⟩ := y
        obtain ⟨z, hz, rfl⟩ := int_at e
        obtain ⟨s4, ms, hm, hml⟩ := h
        refine ⟨rfl, _, rfl, _, rfl, _, _, rfl, rfl, ⟨by decide, by decide, by decide⟩, _, _, rfl, rfl, _, rfl, ?_⟩
        refine ite_b (fun _ => ?_) (fun _ => ?_)
        · refine ⟨_, rfl, _, rfl, _, hm, ?_, ?_⟩
          · rw [List.length_map]
            rw [List.length_map] at hi
            exact Nat.lt_of_le_of_lt hml (Nat.lt_of_lt_of_le hi (Nat.le_trans hl (by decide)))
          · refine ⟨fun b o e => ?_, ms ++ [if z < 0 then -z else z], ?_, ?_⟩
            · rw [upd_ne (ne_of_none e hD)]
              exact s4 _ _ e
            · rw [upd_same, List.map_append]
              rfl
            · rw [List.length_append]
              exact Nat.succ_le_succ hml
        · exact ⟨s4, ms, hm, Nat.le_succ_of_le hml⟩
      · obtain ⟨s4, ms, hm, hml⟩ := h
        refine ⟨by show 3 ≤ sizeLine; decide, fun p hp => ?_⟩
        have hD0 : H D = none := Same.free s3 hD
        have hp0 : H p = none := Same.free (Same.trans s3 s4) hp
        have nDp : D ≠ p := ne_of_none hm hp
        refine k _ p D (Same.new (Same.trans s3 s4) hp) hp0 hD0 ⟨sd, 0, ms, upd_same, ?_⟩
        rw [upd_ne nDp]
        exact hm
/-! ### a draw -/
def spDraw : Sp := fun vs H Q _ => ∃ (p c : Addr) (m : Int), vs = [.ref p, .int m] ∧ PoolAt H p c ∧ 0 < m ∧ m < 1073741824 ∧ ∀ H' r, 0 ≤ r → r < m → Off2 p c H H' → PoolAt H' p c → Q (.int r) H'
theorem sc_law_draw : FnScope ["_law_pool_here", "_law_many", "_law_cells", "_law_digit", "_law_mixed"] ["_law_pool_here", "_law_many"] (defScope s_law_draw) := ⟨rfl, rfl, rfl, by decide +kernel, rfl, by decide +kernel, by decide +kernel⟩
theorem c_law_draw (T : Txt w K mg) : Cal w K mg base CX0 1 "_law_draw" (He.ga K "_law_draw") ["_law_pool_here", "_law_many"] spDraw := by
  obtain ⟨fd, F⟩ := T.d_law_draw
  refine ⟨fd, T.g_law_draw, F.kp, F.bindsN fun _ _ _ _ _ _ us hl => match us, hl with | [_, _], _ => rfl, ?_⟩
  refine F.ok sc_law_draw (fun vs H Q E h => ?_) (fun cdv A outer s H vs Q E hr h => ?_)
  · obtain ⟨p, c, m, rfl, _⟩ := h
    rfl
  · obtain ⟨p, c, m, rfl, hP, m1, m2, k⟩ := h
    have npc := hP.ne
    obtain ⟨s0, k0, ns, h1, h2⟩ := hP
    refine ⟨_, pss_cons (ps_asg (pe_op op_add (pe_ix ix_list (pv 0) pe_int (fun _ _ => rfl)) pe_int) (pg_sub (pv 0) pe_int set_list))
      (pss_cons (ps_set (i := 2) sc_law_draw.nd rfl (Or.inl rfl) (pe_ix ix_list (pv 0) pe_int (fun _ _ => rfl)))
      (pss_cons (ps_if (pt_cmpR op_gt (pe_callB call_len (by rfl) T.f_len (by decide +kernel) (pa_cons (pv 2) pa_nil)) pe_int (nomark _))
        (pss_cons (ps_set (i := 3) sc_law_draw.nd rfl (Or.inl rfl) (pe_op op_mod (pe_callTy call_int1 (by rfl) T.f_int (by decide +kernel) (pa_cons (pe_ix ix_list (pv 2) pe_int (fun _ _ => rfl)) pa_nil)) (pv 1)))
        (pss_cons (ps_asg (pe_op op_fdiv (pe_callTy call_int1 (by rfl) T.f_int (by decide +kernel) (pa_cons (pe_ix ix_list (pv 2) pe_int (fun _ _ => rfl)) pa_nil)) (pv 1)) (pg_sub (pv 2) pe_int set_list))
        (pss_cons (ps_if (pt_cmpR op_eq (pe_ix ix_list (pv 2) pe_int (fun _ _ => rfl)) pe_int (nomark _)) (pss_one (ps_expr (pe_bm PySem.F.plainAttrs_list PySem.F.slot_list_pop PySem.F.type_list_pop mt_popAt (pv 2) (pa_cons pe_int pa_nil)))) pss_nil)
        (pss_one (ps_ret (pv 3)))))) pss_nil)
      (pss_cons (ps_set (i := 4) sc_law_draw.nd rfl (Or.inl rfl) (pe_op op_mod (pe_callTy call_int1 (by rfl) T.f_int (by decide +kernel) (pa_cons (pe_op op_mul (pe_op op_add (pe_ix ix_list (pv 0) pe_int (fun _ _ => rfl)) (pe_op op_mul pe_int (pe_ix ix_list (pv 0) pe_int (fun _ _ => rfl)))) pe_int) pa_nil)) pe_int))
      (pss_cons (ps_set (i := 4) sc_law_draw.nd rfl (Or.inl rfl) (pe_op op_mod (pe_callTy call_int1 (by rfl) T.f_int (by decide +kernel) (pa_cons (pe_op op_mul (pv 4) (pe_op op_add (pe_op op_fdiv (pv 4) pe_int) pe_int)) pa_nil)) pe_int))
      (pss_cons (ps_set (i := 4) sc_law_draw.nd rfl (Or.inl rfl) (pe_op op_mod (pe_callTy call_int1 (by rfl) T.f_int (by decide +kernel) (pa_cons (pe_op op_mul (pv 4) (pe_op op_add (pe_op op_fdiv (pv 4) pe_int) pe_int)) pa_nil)) pe_int))
      (pss_one (ps_ret (pe_op op_mod (pe_callTy call_int1 (by rfl) T.f_int (by decide +kernel) (pa_cons (pe_op op_fdiv (pv 4) pe_int) pa_nil)) (pv 1))))))))), ?_⟩
    refine ⟨_, rfl, p, _, _, V.int k0, rfl, rfl, SqL.of h1, atI_nat (j := 1) rfl, _, _, rfl, rfl, _, rfl, p, _, _, 1, rfl, rfl, h1, rfl, ?_⟩
    have g1 : (upd H p (.lst ([V.int s0, V.int k0, V.ref c].set 1 (V.int (k0 + 1))))) p = some (.lst [V.int s0, V.int (k0 + 1), V.ref c]) := upd_same
    have g2 : (upd H p (.lst ([V.int s0, V.int k0, V.ref c].set 1 (V.int (k0 + 1))))) c = some (.lst (ns.map V.int)) := (upd_ne npc.symm).trans h2
    have o1 : Off2 p c H (upd H p (.lst ([V.int s0, V.int k0, V.ref c].set 1 (V.int (k0 + 1))))) := fun b o hb1 _ e => (upd_ne hb1).trans e
    generalize (upd H p (.lst ([V.int s0, V.int k0, V.ref c].set 1 (V.int (k0 + 1))))) = H1 at *
    refine ⟨_, rfl, p, _, _, V.ref c, rfl, rfl, SqL.of g1, atI_nat (j := 2) rfl, ?_⟩
    refine ⟨_, rfl, _, ns.length, rfl, .inl ⟨_, SqL.of g2, by simp⟩, _, _, rfl, rfl, _, rfl, ?_⟩
    have r0 : ∀ x : Int, 0 ≤ x % m ∧ x % m < m := fun x => ⟨Int.emod_nonneg _ (by omega), Int.emod_lt_of_pos _ m1⟩
    cases ns with
    | nil =>
      refine ite_f rfl ?_
      refine ⟨_, rfl, p, _, _, V.int s0, rfl, rfl, SqL.of g1, atI_nat (j := 0) rfl, _, rfl, p, _, _, V.int (k0 + 1), rfl, rfl, SqL.of g1, atI_nat (j := 1) rfl, _, _, rfl, rfl, .inl ⟨by decide, by decide⟩, _, _, rfl, rfl, _, _, rfl, rfl, .inr ⟨by decide, by decide⟩, .inl ⟨_, rfl, ?_⟩⟩
      refine ⟨_, _, rfl, rfl, (by show (0 : Int) < 2147483647; decide), ?_⟩
      have q1 : 0 ≤ ((s0 + 7919 * (k0 + 1)) * 48271) % 2147483647 ∧ ((s0 + 7919 * (k0 + 1)) * 48271) % 2147483647 < 2147483647 := ⟨Int.emod_nonneg _ (by decide), Int.emod_lt_of_pos _ (by decide)⟩
      generalize ((s0 + 7919 * (k0 + 1)) * 48271) % 2147483647 = x1 at q1 ⊢
      refine ⟨_, rfl, _, rfl, _, _, rfl, rfl, ⟨by decide, by decide⟩, _, _, rfl, rfl, _, _, rfl, rfl, .inl ⟨by omega, by omega⟩, .inl ⟨_, rfl, ?_⟩⟩
      refine ⟨_, _, rfl, rfl, (by show (0 : Int) < 2147483647; decide), ?_⟩
      have q2 : 0 ≤ (x1 * (x1 / 1009 + 69621)) % 2147483647 ∧ (x1 * (x1 / 1009 + 69621)) % 2147483647 < 2147483647 := ⟨Int.emod_nonneg _ (by decide), Int.emod_lt_of_pos _ (by decide)⟩
      generalize (x1 * (x1 / 1009 + 69621)) % 2147483647 = x2 at q2 ⊢
      refine ⟨_, rfl, _, rfl, _, _, rfl, rfl, ⟨by decide, by decide⟩, _, _, rfl, rfl, _, _, rfl, rfl, .inl ⟨by omega, by omega⟩, .inl ⟨_, rfl, ?_⟩⟩
      refine ⟨_, _, rfl, rfl, (by show (0 : Int) < 2147483399; decide), ?_⟩
      refine ⟨_, rfl, _, _, rfl, rfl, ⟨by decide, by decide⟩, .inl ⟨_, rfl, ?_⟩⟩
      refine ⟨_, rfl, _, _, rfl, rfl, m1, ?_⟩
      exact k _ _ (r0 _).1 (r0 _).2 o1 ⟨s0, k0 + 1, [], g1, g2⟩
    | cons n0 ns =>
      refine ite_t (decide_eq_true (by simp)) ?_
      refine ⟨_, rfl, c, _, _, V.int n0, rfl, rfl, SqL.of g2, atI_nat (j := 0) rfl, .inl ⟨_, rfl, ?_⟩⟩
      refine ⟨_, rfl, _, _, rfl, rfl, m1, ?_⟩
      refine ⟨_, rfl, c, _, _, V.int n0, rfl, rfl, SqL.of g2, atI_nat (j := 0) rfl, .inl ⟨_, rfl, ?_⟩⟩
      refine ⟨_, rfl, _, _, rfl, rfl, ⟨m1, m2⟩, _, rfl, c, _, _, 0, rfl, rfl, g2, ixN_zero, ?_⟩
      have g3 : (upd H1 c (.lst (((n0 :: ns).map V.int).set 0 (V.int (n0 / m))))) c = some (.lst ((n0 / m :: ns).map V.int)) := upd_same
      have g4 : (upd H1 c (.lst (((n0 :: ns).map V.int).set 0 (V.int (n0 / m))))) p = some (.lst [V.int s0, V.int (k0 + 1), V.ref c]) := (upd_ne npc).trans g1
      have o2 : Off2 p c H (upd H1 c (.lst (((n0 :: ns).map V.int).set 0 (V.int (n0 / m))))) := fun b o hb1 hb2 e => (upd_ne hb2).trans (o1 b o hb1 hb2 e)
      generalize (upd H1 c (.lst (((n0 :: ns).map V.int).set 0 (V.int (n0 / m))))) = H2 at *
      refine ⟨_, rfl, c, _, _, V.int (n0 / m), rfl, rfl, SqL.of g3, atI_nat (j := 0) rfl, rfl, _, rfl, ?_⟩
      refine ite_b (fun _ => ?_) (fun _ => ?_)
      · refine ⟨_, rfl, .inl ⟨rfl, _, SqL.of g3⟩, c, _, 0, 0, V.int (n0 / m), rfl, rfl, g3, by decide, by decide, (ixN_seq ixN_zero).1, rfl, ?_⟩
        refine ⟨_, rfl, k _ _ (r0 _).1 (r0 _).2 (fun b o hb1 hb2 e => (upd_ne hb2).trans (o2 b o hb1 hb2 e)) ⟨s0, k0 + 1, ns, (upd_ne npc).trans g4, upd_same⟩⟩
      · exact ⟨_, rfl, k _ _ (r0 _).1 (r0 _).2 o2 ⟨s0, k0 + 1, n0 / m :: ns, g4, g3⟩⟩
end
end L2.Dk
set_option Elab.async false
set_option linter.all false
set_option maxRecDepth 100000
set_option maxHeartbeats 4000000
/-! The law's parts and texts. -/
namespace L2.Dk
open PySem PySem.Spec PyProof.Rows
open TL
open CwR (pet_replC pst_ret pst_if psst_nil psst_one PET.of)
section
variable {w : World} {K : PySem.W.Frag} {mg : Str → Option Value} {base : Heap}
/-! ### one of some things -/
def spSome (K : PySem.W.Frag) : Sp := fun vs H Q _ => ∃ (p c l : Addr) (xs : List V), vs = [.ref p, .ref l] ∧ PoolAt H p c ∧ H l = some (.lst xs) ∧ l ≠ p ∧ l ≠ c ∧ 0 < xs.length ∧ xs.length ≤ 1000 ∧ ∀ H' x, x ∈ xs → Off2 p c H H' → PoolAt H' p c → Q x H'
theorem sc_law_some : FnScope ["_law_pool_here", "_law_things"] ["_law_pool_here", "_law_things"] (defScope s_law_some) := ⟨rfl, rfl, rfl, by decide +kernel, rfl, by decide +kernel, by decide +kernel⟩
theorem c_law_some (T : Txt w K mg) : Cal w K mg base CX0 2 "_law_some" (He.ga K "_law_some") ["_law_pool_here", "_law_things"] (spSome K) := by
  obtain ⟨fd, F⟩ := T.d_law_some
  obtain ⟨fd1, g1, k1, b1, G1⟩ := c_law_draw (base := base) T
  refine ⟨fd, T.g_law_some, F.kp, F.bindsN fun _ _ _ _ _ _ us hl => match us, hl with | [_, _], _ => rfl, ?_⟩
  refine F.ok sc_law_some (fun vs H Q E h => ?_) (fun cdv A outer s H vs Q E hr h => ?_)
  · obtain ⟨p, c, l, xs, rfl, _⟩ := h
    rfl
  · obtain ⟨p, c, l, xs, rfl, hP, hl, n1, n2, l0, l1, k⟩ := h
    refine ⟨_, pss_one (ps_ret (pe_ix ix_list (pv 1) (pe_call G1 hr (by rfl) g1 k1 b1 .nil pass0 (pa_cons (pv 0) (pa_cons (pe_callB call_len (by rfl) T.f_len (by decide +kernel) (pa_cons (pv 1) pa_nil)) pa_nil))) (fun _ _ => rfl))), ?_⟩
    refine ⟨_, rfl, _, rfl, _, rfl, _, xs.length, rfl, .inl ⟨_, SqL.of hl, rfl⟩, p, c, _, rfl, hP, by omega, by omega, fun H' r r0 r1 o hP' => ?_⟩
    obtain ⟨j, rfl⟩ : ∃ j : Nat, r = (j : Int) := ⟨r.toNat, by omega⟩
    have hj : j < xs.length := by omega
    exact ⟨l, xs, _, xs[j], rfl, rfl, SqL.of (o _ _ n1 n2 hl), atI_nat (by simp [hj]), k H' _ (List.getElem_mem hj) o hP'⟩
/-! ### same numbers -/
theorem sc_law_integer : FnScope ["_law_thing"] ["_law_thing"] (defScope s_law_integer) := ⟨rfl, rfl, rfl, by decide +kernel, rfl, by decide +kernel, by decide +kernel⟩
theorem c_law_integer (T : Txt w K mg) : Cal w K mg base CX0 1 "_law_integer" (He.ga K "_law_integer") ["_law_thing"] spIsInt := by
  obtain ⟨fd, F⟩ := T.d_law_integer
  refine ⟨fd, T.g_law_integer, F.kp, F.bindsN fun _ _ _ _ _ _ us hl => match us, hl with | [_], _ => rfl, ?_⟩
  refine F.ok sc_law_integer (fun vs H Q E h => ?_) (fun cdv A outer s H vs Q E hr h => ?_)
  · obtain ⟨i, rfl, _⟩ := h
    rfl
  · obtain ⟨i, rfl, k⟩ := h
    refine ⟨_, pss_one (ps_ret (pe_and (pe_callB call_isi (by rfl) T.f_isinstance (by decide +kernel) (pa_cons (pv 0) (pa_cons (pe_bltn (v := .ty "int") (by rfl) T.f_int (by decide +kernel) rfl) pa_nil)))
      (pe_one (pe_not (pe_callB call_isi (by rfl) T.f_isinstance (by decide +kernel) (pa_cons (pv 0) (pa_cons (pe_bltn (v := .ty "bool") (by rfl) T.f_bool (by decide +kernel) rfl) pa_nil))))))), ?_⟩
    refine ⟨_, rfl, .int i, .ty "int", _, _, true, rfl, .ty _, .base (.int _), kit_ty (by decide +kernel), true, rfl, ?_⟩
    exact ⟨_, rfl, .int i, .ty "bool", _, _, false, rfl, .ty _, .base (.int _), kit_ty (by decide +kernel), false, rfl, k⟩
def spSame : Sp := fun vs H Q _ => ∃ (i j : Int), vs = [.int i, .int j] ∧ Q (.bl (decide (V.int i = V.int j))) H
theorem sc_law_same : FnScope ["_law_actual", "_law_expected", "_law_k"] ["_law_actual", "_law_expected"] (defScope s_law_same) := ⟨rfl, rfl, rfl, by decide +kernel, rfl, by decide +kernel, by decide +kernel⟩
theorem c_law_same (T : Txt w K mg) : Cal w K mg base CX0 2 "_law_same" (He.ga K "_law_same") ["_law_actual", "_law_expected"] spSame := by
  obtain ⟨fd, F⟩ := T.d_law_same
  obtain ⟨fd1, g1, k1, b1, G1⟩ := c_law_integer (base := base) T
  refine ⟨fd, T.g_law_same, F.kp, F.bindsN fun _ _ _ _ _ _ us hl => match us, hl with | [_, _], _ => rfl, ?_⟩
  refine F.ok sc_law_same (fun vs H Q E h => ?_) (fun cdv A outer s H vs Q E hr h => ?_)
  · obtain ⟨i, j, rfl, _⟩ := h
    rfl
  · obtain ⟨i, j, rfl, k⟩ := h
    refine ⟨_, pss_cons (ps_if (pt_cmpR op_isN (pv 1) pe_non (nomark _)) pss_never pss_nil)
      (pss_cons (ps_if (pt_val (pe_callB call_isi (by rfl) T.f_isinstance (by decide +kernel) (pa_cons (pv 1) (pa_cons (pe_bltn (v := .ty "bool") (by rfl) T.f_bool (by decide +kernel) rfl) pa_nil)))) pss_never pss_nil)
      (pss_cons (ps_if (pt_val (pe_callB call_isi (by rfl) T.f_isinstance (by decide +kernel) (pa_cons (pv 1) (pa_cons (pe_bltn (v := .ty "int") (by rfl) T.f_int (by decide +kernel) rfl) pa_nil))))
        (pss_one (ps_ret (pe_and (pe_call G1 hr (by rfl) g1 k1 b1 .nil pass0 (pa_cons (pv 0) pa_nil)) (pe_one (pe_cmpR op_eq (pv 0) (pv 1) (nomark _)))))) pss_nil)
      pss_never)), ?_⟩
    refine ⟨_, rfl, rfl, _, rfl, ite_f (decide_eq_false (by intro e; cases e)) ?_⟩
    refine ⟨_, rfl, .int j, .ty "bool", _, _, false, rfl, .ty _, .base (.int _), kit_ty (by decide +kernel), false, rfl, ite_f rfl ?_⟩
    refine ⟨_, rfl, .int j, .ty "int", _, _, true, rfl, .ty _, .base (.int _), kit_ty (by decide +kernel), true, rfl, ite_t rfl ?_⟩
    refine ⟨_, rfl, i, rfl, true, rfl, ite_t rfl ?_⟩
    exact ⟨_, rfl, _, rfl, rfl, k⟩
/-! ### parts -/
def PartsAt (H : Hp) (t : Addr) (P : Parts) : Prop := ∃ r, H t = some (.tup [.int P.S, .int P.T, .ref r]) ∧ RdsT H r P.rs
theorem PartsAt.same {H H' : Hp} {t : Addr} {P : Parts} (s : Same H H') (h : PartsAt H t P) : PartsAt H' t P := by
  obtain ⟨r, h1, h2⟩ := h
  exact ⟨r, s _ _ h1, RdsT.same s h2⟩
def spSorted (K : PySem.W.Frag) : Sp := fun vs H Q _ => ∃ (S T : Int) (l : Addr) (ks : List (Addr × Rd)), vs = [.int S, .int T, .ref l] ∧ H l = some (.lst (ks.map fun q => V.ref q.1)) ∧ (∀ q ∈ ks, RdT H q.1 q.2) ∧ ks.length ≤ 4 ∧
  ∀ (H' : Hp) (t : Addr) (L : List (Addr × Rd)), Same H H' → (∀ q ∈ L, q ∈ ks) → L.length ≤ 4 → (L.Pairwise fun a b : Addr × Rd => rlt a.2 b.2) → PartsAt H' t ⟨S, T, L.map (·.2)⟩ → Q (.ref t) H'
theorem sc_law_sorted_parts : FnScope ["_law_sides", "_law_tables", "_law_readings"] ["_law_sides", "_law_tables", "_law_readings"] (defScope s_law_sorted_parts) := ⟨rfl, rfl, rfl, by decide +kernel, rfl, by decide +kernel, by decide +kernel⟩
theorem c_law_sorted_parts (T : Txt w K mg) : Cal w K mg base CX0 1 "_law_sorted_parts" (He.ga K "_law_sorted_parts") ["_law_sides", "_law_tables", "_law_readings"] (spSorted K) := by
  obtain ⟨fd, F⟩ := T.d_law_sorted_parts
  refine ⟨fd, T.g_law_sorted_parts, F.kp, F.bindsN fun _ _ _ _ _ _ us hl => match us, hl with | [_, _, _], _ => rfl, ?_⟩
  refine F.ok sc_law_sorted_parts (fun vs H Q E h => ?_) (fun cdv A outer s H vs Q E hr h => ?_)
  · obtain ⟨S, Tt, l, ks, rfl, _⟩ := h
    rfl
  · obtain ⟨S, Tt, l, ks, rfl, hl, hks, hlen, k⟩ := h
    have hu : _ + 64 < cLine := hr.units
    refine ⟨_, pss_one (ps_ret (pe_tup (pa_cons (pv 0) (pa_cons (pv 1) (pa_cons (pe_callTy call_tuple_of (by rfl) T.f_tuple (by decide +kernel) (pa_cons (pe_ss (ssN rfl hu) (by rfl) T.f_sorted (by rfl) T.f_set (pv 2)) pa_nil)) pa_nil))))), ?_⟩
    refine ⟨_, rfl, _, rfl, _, rfl, l, ks, rfl, SqL.of hl, fun q hq => (hks q hq).at_, hlen, fun L q hq hL hL4 hpw => ?_⟩
    refine ⟨q, _, rfl, .inl ⟨SqL.of upd_same, fun r hr => ?_⟩⟩
    refine ⟨by show 3 ≤ sizeLine; decide, fun t ht => ?_⟩
    have s1 := Same.new (o := HO.lst (L.map fun q => V.ref q.1)) (Same.refl H) hq
    have s2 := Same.new (o := HO.tup (L.map fun q => V.ref q.1)) s1 hr
    have s3 := Same.new (o := HO.tup [V.int S, V.int Tt, V.ref r]) s2 ht
    have nrt : r ≠ t := fun e => by rw [← e, upd_same] at ht; cases ht
    refine k _ t L s3 hL hL4 hpw ⟨r, upd_same, L, ?_, rfl, fun x hx => RdT.same s3 (hks x (hL x hx))⟩
    rw [upd_ne nrt, upd_same]
def spLawText (K : PySem.W.Frag) : Sp := fun vs H Q _ => ∃ (t : Addr) (P : Parts), vs = [.ref t] ∧ P.Tight ∧ PartsAt H t P ∧ ∀ H', Same H H' → Q (.str (prgT P)) H'
theorem sc_law_text : FnScope ["_law_parts", "_law_lines", "_law_reader", "_law_read", "_law_step", "_law_item", "_law_line"] ["_law_parts"] (defScope s_law_text) := ⟨rfl, rfl, rfl, by decide +kernel, rfl, by decide +kernel, by decide +kernel⟩
theorem c_law_text (T : Txt w K mg) : Cal w K mg base CX0 1 "_law_text" (He.ga K "_law_text") ["_law_parts"] (spLawText K) := by
  obtain ⟨fd, F⟩ := T.d_law_text
  refine ⟨fd, T.g_law_text, F.kp, F.bindsN fun _ _ _ _ _ _ us hl => match us, hl with | [_], _ => rfl, ?_⟩
  refine F.ok sc_law_text (fun vs H Q E h => ?_) (fun cdv A outer s H vs Q E hr h => ?_)
  · obtain ⟨a, P, rfl, _⟩ := h
    rfl
  · obtain ⟨a, P, rfl, t, ⟨r, hp, ks, hk, ek, hks⟩, k⟩ := h
    refine ⟨_, PSs.nox (pss_cons (ps_set (i := 1) sc_law_text.nd rfl (Or.inl rfl) (pe_lst (pa_cons (pe_op op_add_str pe_str (pe_callTy call_str_int (by rfl) T.f_str (by decide +kernel) (pa_cons (pe_ix ix_tup (pv 0) pe_int (fun _ _ => rfl)) pa_nil)))
        (pa_cons (pe_op op_add_str pe_str (pe_callTy call_str_int (by rfl) T.f_str (by decide +kernel) (pa_cons (pe_ix ix_tup (pv 0) pe_int (fun _ _ => rfl)) pa_nil))) pa_nil))))
      (pss_cons (ps_for PassesOwn.never rfl (pi_tup (pe_ix ix_tup (pv 0) pe_int (fun _ _ => rfl))) (pg_tup rfl (pgs_cons (pg_name (i := 2) sc_law_text.nd rfl (Or.inl rfl)) (pgs_cons (pg_name (i := 3) sc_law_text.nd rfl (Or.inl rfl)) (pgs_cons (pg_name (i := 4) sc_law_text.nd rfl (Or.inl rfl)) pgs_nil))))
        (pss_one (ps_expr (pe_bm PySem.F.plainAttrs_list PySem.F.slot_list_append PySem.F.type_list_append mt_append (pv 1) (pa_cons (pe_join pe_str
          (pe_op op_cat (pe_lst (pa_cons (pe_callTy call_str_int (by rfl) T.f_str (by decide +kernel) (pa_cons (pv 2) pa_nil)) (pa_cons (pe_callTy call_str_int (by rfl) T.f_str (by decide +kernel) (pa_cons (pv 3) pa_nil)) pa_nil)))
          (pe_lc (own := [("_law_item", 5)]) (g := gName 5) (tt := tYes) rfl sc_law_text.nd (pi_tup (pv 4)) (blkOk_by (N := ["_law_parts", "_law_lines", "_law_reader", "_law_read", "_law_step", "_law_item", "_law_line"]) (sc := defScope s_law_text) (by decide +kernel))
            (fun _ _ _ _ _ => pg_name (i := 5) sc_law_text.nd rfl (Or.inl rfl)) (fun _ _ _ _ _ => pts_nil)
            (fun _ _ _ _ _ => pe_callTy call_str_int (by rfl) T.f_str (by decide +kernel) (pa_cons (pv 5) pa_nil))))) pa_nil)))))
      (pss_one (ps_ret (pe_join pe_str (pe_lc (own := [("_law_line", 6)]) (g := gName 6) (tt := tYes) rfl sc_law_text.nd (pi_list (pv 1)) (blkOk_by (N := ["_law_parts", "_law_lines", "_law_reader", "_law_read", "_law_step", "_law_item", "_law_line"]) (sc := defScope s_law_text) (by decide +kernel))
            (fun _ _ _ _ _ => pg_name (i := 6) sc_law_text.nd rfl (Or.inl rfl)) (fun _ _ _ _ _ => pts_nil)
            (fun _ _ _ _ _ => pe_op op_add_str (pv 6) pe_str))))))), ?_⟩
    have hS : -1 ≤ P.S ∧ P.S ≤ 3 := by have := t.s; omega
    have hT : -1 ≤ P.T ∧ P.T ≤ 3 := by have := t.t; omega
    have wS := numW_word (iT_mem hS)
    have wT := numW_word (iT_mem hT)
    refine ⟨_, rfl, a, _, _, V.int P.S, rfl, rfl, SqT.of hp, atI_nat (j := 0) rfl, P.S, rfl, iT_log hS, _, _, rfl, rfl, ?_, ?_⟩
    · have e1 : ("sides " : Str).length = 6 := by decide +kernel
      have e2 : (Str.ofString (toString P.S)).length ≤ 6 := wS.len
      rw [e1]
      exact Nat.le_trans (Nat.add_le_add_left e2 6) (by decide)
    refine ⟨_, rfl, a, _, _, V.int P.T, rfl, rfl, SqT.of hp, atI_nat (j := 1) rfl, P.T, rfl, iT_log hT, _, _, rfl, rfl, ?_, ?_⟩
    · have e1 : ("tables " : Str).length = 7 := by decide +kernel
      have e2 : (Str.ofString (toString P.T)).length ≤ 6 := wT.len
      rw [e1]
      exact Nat.le_trans (Nat.add_le_add_left e2 7) (by decide)
    refine ⟨by show 2 ≤ sizeLine; decide, fun l hl => ?_⟩
    have el : [V.str (("sides " : Str) ++ Str.ofString (toString P.S)), V.str (("tables " : Str) ++ Str.ofString (toString P.T))] = ((linesAt P).take 2).map V.str := by
      have e1 : ("sides " : Str) ++ Str.ofString (toString P.S) = lineOf [("sides" : Str), iT P.S] := ext_tl (by
        rw [tl_line, tl_append, show tl ("sides " : Str) = tl ("sides" : Str) ++ [32] by decide +kernel, List.append_assoc]
        rfl)
      have e2 : ("tables " : Str) ++ Str.ofString (toString P.T) = lineOf [("tables" : Str), iT P.T] := ext_tl (by
        rw [tl_line, tl_append, show tl ("tables " : Str) = tl ("tables" : Str) ++ [32] by decide +kernel, List.append_assoc]
        rfl)
      rw [e1, e2]
      rfl
    have npl : a ≠ l := ne_of_none hp hl
    have hlk : ks.length = P.rs.length := by rw [← ek, List.length_map]
    have hll : (linesAt P).length = 2 + ks.length := by
      unfold linesAt wordsAt
      rw [List.length_map, List.length_append, List.length_map, hlk]
      rfl
    refine ⟨_, rfl, a, _, _, V.ref r, rfl, rfl, SqT.of (Eq.trans (upd_ne npl) hp), atI_nat (j := 2) rfl, r, rfl, ⟨_, SqT.of (Eq.trans (upd_ne (ne_of_none hk hl)) hk)⟩, ?_⟩
    refine for_it (walk_tup (xs := ks.map fun q => V.ref q.1)) (fun i σ H' => ∃ v2 v3 v4, σ = [some (.ref a), some (.ref l), v2, v3, v4, none, none] ∧ Same H H' ∧ H' l = some (.lst (((linesAt P).take (2 + i)).map V.str)))
      ⟨_, _, _, rfl, Same.new (Same.refl _) hl, Eq.trans upd_same (congrArg (fun z => some (HO.lst z)) el)⟩ (fun i σ H' _ h => ?_) (fun i x σ H1 H2 hi h y => ?_) (fun σ H' h => ?_)
    · obtain ⟨_, _, _, _, s', _⟩ := h
      exact Same.tup s' (SqT.of hk)
    · obtain ⟨v2, v3, v4, rfl, s', hl'⟩ := h
      obtain ⟨rfl, e⟩ := y
      obtain ⟨q, hq, rfl⟩ := pair_at e
      obtain ⟨b, h1, h2⟩ := hks _ (List.mem_of_getElem? hq)
      have hqm : q.2 ∈ P.rs := by rw [← ek]; exact List.mem_map_of_mem (List.mem_of_getElem? hq)
      have W := wordsAt_rd t hqm
      have hlen2 : q.2.2.2.length ≤ 2 := by have := (t.each _ hqm).1; have := t.s.2; omega
      have small : ∀ i, i ∈ [q.2.1, q.2.2.1] ++ q.2.2.2 → -1 ≤ i ∧ i ≤ 3 := fun i hi => rd_small t hqm hi
      refine ⟨q.1, _, rfl, SqT.of (s' _ _ h1), rfl, _, _, rfl, _, _, rfl, _, _, rfl, rfl, ?_⟩
      refine ⟨_, rfl, .inl ⟨rfl, _, SqL.of hl'⟩, ⟨_, rfl⟩, ?_⟩
      refine ⟨_, rfl, q.2.1, rfl, iT_log (small _ (by simp)), _, rfl, q.2.2.1, rfl, iT_log (small _ (by simp)), by show 2 ≤ sizeLine; decide, fun la hla => ?_⟩
      have s2 := Same.new (o := HO.lst [V.str (iT q.2.1), V.str (iT q.2.2.1)]) (Same.refl H2) hla
      have ela : (upd H2 la (.lst [V.str (iT q.2.1), V.str (iT q.2.2.1)])) la = some (.lst [V.str (iT q.2.1), V.str (iT q.2.2.1)]) := upd_same
      refine ⟨_, rfl, b, rfl, ⟨_, SqT.of (s2 _ _ (s' _ _ h2))⟩, fun D hD => ?_⟩
      refine lc_same (walk_tup (K := K) (a := b) (xs := q.2.2.2.map V.int)) hD ((q.2.2.2.map iT).map V.str) (by simp) ?_ (fun H' s4 => Same.tup s4 (SqT.of (s2 _ _ (s' _ _ h2)))) (fun i x y H3 H4 Q' hi' s4 yy hy qq => ?_) (fun H' s4 hD' => ?_)
      · rw [List.length_map]
        exact Nat.le_trans hlen2 (by decide)
      · obtain ⟨rfl, e4⟩ := yy
        obtain ⟨z, hz, rfl⟩ := int_at e4
        have hz2 := small z (List.mem_append_right _ (List.mem_of_getElem? hz))
        refine ⟨rfl, _, rfl, z, rfl, iT_log hz2, ?_⟩
        have : V.str (iT z) = y := by
          rw [List.getElem?_map, List.getElem?_map, hz] at hy
          exact Option.some.inj hy
        rw [← this] at qq
        exact qq _ (Same.refl _)
      · have s5 := Same.trans s2 s4
        refine ⟨la, D, _, _, rfl, rfl, s4 _ _ ela, hD', ?_, fun lq hlq => ?_⟩
        · rw [List.length_map, List.length_map]
          exact Nat.le_trans (Nat.add_le_add_left hlen2 2) (by decide)
        have ecat : [V.str (iT q.2.1), V.str (iT q.2.2.1)] ++ (q.2.2.2.map iT).map V.str = ((([q.2.1, q.2.2.1] ++ q.2.2.2).map iT).map V.str) := by
          rw [List.map_append, List.map_append]
          rfl
        have s6 := Same.new (o := HO.lst ([V.str (iT q.2.1), V.str (iT q.2.2.1)] ++ (q.2.2.2.map iT).map V.str)) s5 hlq
        refine ⟨_, lq, ([q.2.1, q.2.2.1] ++ q.2.2.2).map iT, rfl, rfl, .inl (SqL.of (by rw [upd_same]; exact congrArg (fun z => some (HO.lst z)) ecat)), ?_, ?_⟩
        · have h6 := sum_le (ys := ([q.2.1, q.2.2.1] ++ q.2.2.2).map iT) (m := 6) fun z hz => (W.each z hz).len
          have h7 := W.len
          have h8 : (" " : Str).length = 1 := by decide +kernel
          rw [h8]
          omega
        · refine ⟨l, _, _, rfl, rfl, s6 _ _ hl', ?_, ?_⟩
          · rw [List.length_map, List.length_take]
            have := linesAt_len t
            exact Nat.lt_of_le_of_lt (Nat.min_le_right _ _) (Nat.lt_of_le_of_lt this (by decide))
          · refine ⟨_, _, _, rfl, fun c o e => ?_, ?_⟩
            · have ncl : c ≠ l := fun q => by rw [q, hl] at e; cases e
              rw [upd_ne ncl]
              exact s6 _ _ (s' _ _ e)
            · rw [upd_same]
              have e5 : (linesAt P)[2 + i]? = some (lineOf (([q.2.1, q.2.2.1] ++ q.2.2.2).map iT)) := by
                have e6 : P.rs[i]? = some q.2 := by rw [← ek, List.getElem?_map, hq]; rfl
                unfold linesAt wordsAt
                rw [List.getElem?_map, List.getElem?_append_right (by show 2 ≤ 2 + i; omega)]
                show ((List.map _ P.rs)[2 + i - 2]?).map lineOf = _
                rw [show 2 + i - 2 = i by omega, List.getElem?_map, e6]
                rfl
              have e7 := take_snoc e5
              have e8 : ((linesAt P).take (2 + i + 1)).map V.str = ((linesAt P).take (2 + i)).map V.str ++ [V.str (lineOf (([q.2.1, q.2.2.1] ++ q.2.2.2).map iT))] := (congrArg (List.map V.str) e7).trans List.map_append
              rw [show 2 + (i + 1) = 2 + i + 1 by omega, e8]
              rfl
    · obtain ⟨v2, v3, v4, rfl, s', hl'⟩ := h
      have hl2 : H' l = some (.lst ((linesAt P).map V.str)) := by
        rw [hl', List.length_map, ← hll, List.take_length]
      refine ⟨⟨_, rfl⟩, _, rfl, l, rfl, ⟨_, SqL.of hl2⟩, fun D hD => ?_⟩
      refine lc_same (walk_list (K := K) (a := l) (xs := (linesAt P).map V.str)) hD (((linesAt P).map fun u : Str => u ++ ("\n" : Str)).map V.str) (by simp) ?_ (fun H' s4 => Same.seq s4 (SqL.of hl2)) (fun i x y H3 H4 Q' hi' s4 yy hy qq => ?_) (fun H' s4 hD' => ?_)
      · rw [List.length_map]
        exact Nat.le_trans (linesAt_len t) (by decide)
      · obtain ⟨rfl, e4⟩ := yy
        obtain ⟨z, hz, rfl⟩ := str_at' e4
        refine ⟨rfl, _, rfl, _, _, rfl, rfl, ?_, ?_⟩
        · have := (linesAt_free t z (List.mem_of_getElem? hz)).2.2
          have h8 : ("\n" : Str).length = 1 := by decide +kernel
          rw [h8]
          exact Nat.le_trans (Nat.add_le_add_right this 1) (by decide)
        · have : V.str (z ++ ("\n" : Str)) = y := by
            rw [List.getElem?_map, List.getElem?_map, hz] at hy
            exact Option.some.inj hy
          rw [← this] at qq
          exact qq _ (Same.refl _)
      · refine ⟨_, D, ((linesAt P).map fun u : Str => u ++ ("\n" : Str)), rfl, rfl, .inl (SqL.of hD'), ?_, ?_⟩
        · have h6 := sum_le (ys := ((linesAt P).map fun u : Str => u ++ ("\n" : Str))) (m := 29) fun z hz => by
            obtain ⟨u, hu, rfl⟩ := List.mem_map.mp hz
            have := (linesAt_free t u hu).2.2
            have h8 : ("\n" : Str).length = 1 := by decide +kernel
            rw [len_app, h8]
            omega
          have h7 := linesAt_len t
          have h8 : ("" : Str).length = 0 := by decide +kernel
          rw [h8]
          rw [List.length_map] at h6 ⊢
          omega
        · exact k _ (Same.trans s' s4)
def spLineText (K : PySem.W.Frag) : Sp := fun vs H Q _ => ∃ (t : Addr) (P : Parts), vs = [.ref t] ∧ P.Tight ∧ PartsAt H t P ∧ ∀ H', Same H H' → Q (.str (barT P)) H'
theorem sc_law_line_text : FnScope ["_law_parts"] ["_law_parts"] (defScope s_law_line_text) := ⟨rfl, rfl, rfl, by decide +kernel, rfl, by decide +kernel, by decide +kernel⟩
theorem c_law_line_text (T : Txt w K mg) : Cal w K mg base CX0 2 "_law_line_text" (He.ga K "_law_line_text") ["_law_parts"] (spLineText K) := by
  obtain ⟨fd, F⟩ := T.d_law_line_text
  obtain ⟨fd1, g1, k1, b1, G1⟩ := c_law_text (base := base) T
  refine ⟨fd, T.g_law_line_text, F.kp, F.bindsN fun _ _ _ _ _ _ us hl => match us, hl with | [_], _ => rfl, ?_⟩
  refine okT F sc_law_line_text (by decide +kernel) (by decide) (fun vs H Q E h => ?_) (fun cdv A outer s H vs Q E hr h => ?_)
  · obtain ⟨t, P, rfl, _⟩ := h
    rfl
  · obtain ⟨t, P, rfl, tP, hP, k⟩ := h
    refine ⟨_, psst_one (pst_ret (pet_replC (pe_call G1 hr (by rfl) g1 k1 b1 .nil pass0 (pa_cons (pv 0) pa_nil)))), ?_⟩
    exact ⟨_, rfl, t, P, rfl, tP, hP, fun H' s1 => ⟨_, rfl, bar_room tP, k _ s1⟩⟩
end
end L2.Dk
set_option Elab.async false
set_option linter.all false
set_option maxRecDepth 100000
set_option maxHeartbeats 4000000
/-! The law's few parts, its names. -/
namespace L2.Dk
open PySem PySem.Spec PyProof.Rows
open TL
theorem KTI.off2 {H H' : Hp} {p c : Addr} (h : PoolAt H p c) (o : Off2 p c H H') : KTI H H' := by
  obtain ⟨s, k, ns, h1, h2⟩ := h
  exact ⟨fun b xs e => o _ _ (ne_of e h1 (by intro z; cases z)) (ne_of e h2 (by intro z; cases z)) e, fun b C dx fs e => o _ _ (ne_of e h1 (by intro z; cases z)) (ne_of e h2 (by intro z; cases z)) e⟩
theorem PoolAt.nep {H : Hp} {p c b : Addr} (h : PoolAt H p c) (hb : H b = none) : b ≠ p ∧ b ≠ c := by
  obtain ⟨s, k, ns, h1, h2⟩ := h
  exact ⟨(fun e => by rw [e, h1] at hb; cases hb), (fun e => by rw [e, h2] at hb; cases hb)⟩
theorem Off2.trans {p c : Addr} {H H1 H2 : Hp} (a : Off2 p c H H1) (b : Off2 p c H1 H2) : Off2 p c H H2 := fun x o h1 h2 e => b x o h1 h2 (a x o h1 h2 e)
theorem Off2.same {p c : Addr} {H H1 : Hp} (s : Same H H1) : Off2 p c H H1 := fun x o _ _ e => s x o e
theorem tYes_go {σ : St} {H : Hp} {A B : Hp → Prop} (h : A H) : tYes σ H fun b H3 => if b = true then A H3 else B H3 := by
  show if true = true then A H else B H
  rw [if_pos rfl]
  exact h
section
variable {w : World} {K : PySem.W.Frag} {mg : Str → Option Value} {base : Heap}
def spFew : Sp := fun vs H Q _ => ∃ (p c : Addr), vs = [.ref p] ∧ PoolAt H p c ∧ ∀ H' t P, Off2 p c H H' → PoolAt H' p c → P.Tight → PartsAt H' t P → Q (.ref t) H'
theorem sc_law_few_parts : FnScope ["_law_pool_here", "_law_sides", "_law_tables", "_law_readings", "_law_k", "_law_step", "_law_j"] ["_law_pool_here"] (defScope s_law_few_parts) := ⟨rfl, rfl, rfl, by decide +kernel, rfl, by decide +kernel, by decide +kernel⟩
/-- a reading that is drawn -/
def RdDrawn (S T : Int) (k : Rd) : Prop := (k.2.2.length : Int) = S ∧ (0 ≤ k.1 ∧ k.1 ≤ T - 1) ∧ (0 ≤ k.2.1 ∧ k.2.1 ≤ T - 1) ∧ ∀ n ∈ k.2.2, -1 ≤ n ∧ n ≤ 1
theorem c_law_few_parts (T : Txt w K mg) : Cal w K mg base CX0 2 "_law_few_parts" (He.ga K "_law_few_parts") ["_law_pool_here"] spFew := by
  obtain ⟨fd, F⟩ := T.d_law_few_parts
  obtain ⟨fd1, g1, k1, b1, G1⟩ := c_law_draw (base := base) T
  obtain ⟨fd2, g2, k2, b2, G2⟩ := c_law_sorted_parts (base := base) T
  refine ⟨fd, T.g_law_few_parts, F.kp, F.bindsN fun _ _ _ _ _ _ us hl => match us, hl with | [_], _ => rfl, ?_⟩
  refine F.ok sc_law_few_parts (fun vs H Q E h => ?_) (fun cdv A outer s H vs Q E hr h => ?_)
  · obtain ⟨p, c, rfl, _⟩ := h
    rfl
  · obtain ⟨p, c, rfl, hP, k⟩ := h
    refine ⟨_, PSs.nox (pss_cons (ps_set (i := 1) sc_law_few_parts.nd rfl (Or.inl rfl) (pe_op op_add pe_int (pe_call G1 hr (by rfl) g1 k1 b1 .nil pass0 (pa_cons (pv 0) (pa_cons pe_int pa_nil)))))
      (pss_cons (ps_set (i := 2) sc_law_few_parts.nd rfl (Or.inl rfl) (pe_op op_add pe_int (pe_call G1 hr (by rfl) g1 k1 b1 .nil pass0 (pa_cons (pv 0) (pa_cons pe_int pa_nil)))))
      (pss_cons (ps_set (i := 3) sc_law_few_parts.nd rfl (Or.inl rfl) (pe_lst pa_nil))
      (pss_cons (ps_for PassesOwn.never rfl (pi_range1 (by rfl) T.f_range (pa_cons (pe_call G1 hr (by rfl) g1 k1 b1 .nil pass0 (pa_cons (pv 0) (pa_cons pe_int pa_nil))) pa_nil)) (pg_name (i := 4) sc_law_few_parts.nd rfl (Or.inl rfl))
        (pss_cons (ps_set (i := 5) sc_law_few_parts.nd rfl (Or.inl rfl) (pe_callTy call_tuple_of (by rfl) T.f_tuple (by decide +kernel) (pa_cons (pe_lc (own := [("_law_j", 6)]) (g := gName 6) (tt := tYes) rfl sc_law_few_parts.nd (pi_range1 (by rfl) T.f_range (pa_cons (pv 1) pa_nil))
            (blkOk_by (N := ["_law_pool_here", "_law_sides", "_law_tables", "_law_readings", "_law_k", "_law_step", "_law_j"]) (sc := defScope s_law_few_parts) (by decide +kernel))
            (fun _ _ _ _ _ => pg_name (i := 6) sc_law_few_parts.nd rfl (Or.inl rfl)) (fun _ _ _ _ _ => pts_nil)
            (fun _ _ _ _ _ => pe_op op_sub (pe_call G1 hr (by rfl) g1 k1 b1 .nil pass0 (pa_cons (pv 0) (pa_cons pe_int pa_nil))) pe_int)) pa_nil)))
        (pss_one (ps_expr (pe_bm PySem.F.plainAttrs_list PySem.F.slot_list_append PySem.F.type_list_append mt_append (pv 3) (pa_cons (pe_tup (pa_cons (pe_call G1 hr (by rfl) g1 k1 b1 .nil pass0 (pa_cons (pv 0) (pa_cons (pv 2) pa_nil)))
          (pa_cons (pe_call G1 hr (by rfl) g1 k1 b1 .nil pass0 (pa_cons (pv 0) (pa_cons (pv 2) pa_nil))) (pa_cons (pv 5) pa_nil)))) pa_nil))))))
      (pss_one (ps_ret (pe_call G2 hr (by rfl) g2 k2 b2 .nil pass0 (pa_cons (pv 1) (pa_cons (pv 2) (pa_cons (pv 3) pa_nil)))))))))), ?_⟩
    refine ⟨_, rfl, p, c, 2, rfl, hP, by decide, by decide, fun Ha S r1 r2 oa hPa => ?_⟩
    refine ⟨_, _, rfl, rfl, ?_⟩
    refine ⟨_, rfl, p, c, 3, rfl, hPa, by decide, by decide, fun Hb Tt r3 r4 ob hPb => ?_⟩
    refine ⟨_, _, rfl, rfl, Nat.zero_le _, fun rl hrl => ?_⟩
    obtain ⟨nrp, nrc⟩ := hPb.nep hrl
    have oc : Off2 p c H (upd Hb rl (.lst [])) := (Off2.trans (Off2.trans oa ob)) (Off2.same (Same.new (Same.refl _) hrl))
    have hPc : PoolAt (upd Hb rl (.lst [])) p c := hPb.same (Same.new (Same.refl _) hrl)
    have ec : (upd Hb rl (.lst [])) rl = some (.lst []) := upd_same
    have hrl0 : H rl = none := by
      cases e : H rl with
      | none => rfl
      | some o =>
        have := (Off2.trans oa ob) _ _ nrp nrc e
        rw [this] at hrl
        cases hrl
    generalize (upd Hb rl (.lst [])) = Hc at *
    refine ⟨_, rfl, p, c, 5, rfl, hPc, by decide, by decide, fun Hd r r5 r6 od hPd => ?_⟩
    refine ⟨r, rfl, by omega, by omega, ?_⟩
    refine for_it (walk_range (lo := 0) (n := r.toNat)) (fun i σ H' => ∃ v4 v5 ks, σ = [some (.ref p), some (.int (1 + S)), some (.int (1 + Tt)), some (.ref rl), v4, v5, none] ∧ Off2 p c H H' ∧ PoolAt H' p c ∧
        H' rl = some (.lst (ks.map fun q : Addr × Rd => V.ref q.1)) ∧ ks.length = i ∧ ∀ q ∈ ks, RdT H' q.1 q.2 ∧ RdDrawn (1 + S) (1 + Tt) q.2)
      ⟨none, none, [], rfl, Off2.trans oc od, hPd, od _ _ nrp nrc ec, rfl, fun q hq => by cases hq⟩ (fun i σ H' _ h => True.intro) (fun i x σ H1 H2 hi h y => ?_) (fun σ H' h => ?_)
    · obtain ⟨v4, v5, ks, rfl, o1, hP1, hl1, hlen, hks⟩ := h
      obtain ⟨rfl, rfl⟩ := y
      refine ⟨_, rfl, 1 + S, rfl, by omega, by omega, fun D hD => ?_⟩
      obtain ⟨nDp, nDc⟩ := hP1.nep hD
      refine lc_it (walk_range (lo := 0) (n := (1 + S).toNat)) (fun j H' => Off2 p c H2 H' ∧ PoolAt H' p c ∧ ∃ ms : List Int, H' D = some (.lst (ms.map V.int)) ∧ ms.length = j ∧ ∀ n ∈ ms, -1 ≤ n ∧ n ≤ 1)
        ⟨Off2.same (Same.new (Same.refl _) hD), hP1.same (Same.new (Same.refl _) hD), [], upd_same, rfl, fun n hn => by cases hn⟩ (fun _ _ _ _ => True.intro) (fun j x H3 H4 hj h y => ?_) (fun H3 h => ?_)
      · obtain ⟨rfl, rfl⟩ := y
        obtain ⟨o3, hP3, ms, hms, hml, hm1⟩ := h
        refine ⟨rfl, tYes_go ?_⟩
        refine ⟨_, rfl, p, c, 3, rfl, hP3, by decide, by decide, fun H5 d d0 d1 o5 hP5 => ?_⟩
        refine ⟨_, _, rfl, rfl, _, o5 _ _ nDp nDc hms, ?_, ?_⟩
        · rw [List.length_map, hml]
          exact Nat.lt_of_lt_of_le hj (Nat.le_trans (show (1 + S).toNat ≤ 2 by omega) (by decide))
        · refine ⟨fun b o hb1 hb2 e => ?_, ?_, ms ++ [d - 1], ?_, ?_, fun n hn => ?_⟩
          · rw [upd_ne (ne_of_none e hD)]
            exact o5 _ _ hb1 hb2 (o3 _ _ hb1 hb2 e)
          · obtain ⟨a, b, c', q1, q2⟩ := hP5
            exact ⟨a, b, c', (upd_ne nDp.symm).trans q1, (upd_ne nDc.symm).trans q2⟩
          · rw [upd_same, List.map_append]
            rfl
          · rw [List.length_append, hml]
            rfl
          · rcases List.mem_append.mp hn with hn | hn
            · exact hm1 n hn
            · cases List.mem_singleton.mp hn
              omega
      · obtain ⟨o3, hP3, ms, hms, hml, hm1⟩ := h
        refine ⟨D, _, rfl, .inl ⟨SqL.of hms, fun st hst => ?_⟩⟩
        have s4 : Same H3 (upd H3 st (.tup (ms.map V.int))) := Same.new (Same.refl _) hst
        have o4 : Off2 p c H2 (upd H3 st (.tup (ms.map V.int))) := Off2.trans o3 (Off2.same s4)
        have hP4 := hP3.same s4
        have e4 : (upd H3 st (.tup (ms.map V.int))) st = some (.tup (ms.map V.int)) := upd_same
        generalize (upd H3 st (.tup (ms.map V.int))) = H4 at *
        refine ⟨_, rfl, .inl ⟨rfl, _, SqL.of (o4 _ _ nrp nrc hl1)⟩, ?_⟩
        refine ⟨_, rfl, _, rfl, p, c, 1 + Tt, rfl, hP4, by omega, by omega, fun H5 a a0 a1 o5 hP5 => ?_⟩
        refine ⟨_, rfl, _, rfl, p, c, 1 + Tt, rfl, hP5, by omega, by omega, fun H6 b b0 b1 o6 hP6 => ?_⟩
        refine ⟨_, rfl, by show 3 ≤ sizeLine; decide, fun ta hta => ?_⟩
        have o26 : Off2 p c H2 H6 := Off2.trans o4 (Off2.trans o5 o6)
        have hl6 := o26 _ _ nrp nrc hl1
        have s7 : Same H6 (upd H6 ta (.tup [.int a, .int b, .ref st])) := Same.new (Same.refl _) hta
        have ntr : ta ≠ rl := fun e => by rw [e, hl6] at hta; cases hta
        have est6 : H6 st = some (.tup (ms.map V.int)) := (KTI.off2 hP4 (Off2.trans o5 o6)).t _ _ e4
        have nst : st ≠ rl := ne_of est6 hl6 (by intro z; cases z)
        have nstt : st ≠ ta := ne_of_none est6 hta
        refine ⟨rl, _, _, rfl, rfl, s7 _ _ hl6, ?_, ?_⟩
        · rw [List.length_map, hlen]
          exact Nat.lt_of_lt_of_le hi (Nat.le_trans (show r.toNat ≤ 5 by omega) (by decide))
        · refine ⟨_, _, ks ++ [(ta, (a, b, ms))], rfl, fun x o hb1 hb2 e => ?_, ?_, ?_, ?_, fun q hq => ?_⟩
          · rw [upd_ne (ne_of_none e hrl0)]
            exact s7 _ _ (o26 _ _ hb1 hb2 (o1 _ _ hb1 hb2 e))
          · obtain ⟨u, v, c', q1, q2⟩ := hP6.same s7
            exact ⟨u, v, c', (upd_ne nrp.symm).trans q1, (upd_ne nrc.symm).trans q2⟩
          · rw [upd_same, List.map_append]
            rfl
          · rw [List.length_append, hlen]
            rfl
          · rcases List.mem_append.mp hq with hq | hq
            · obtain ⟨x1, x2⟩ := hks q hq
              exact ⟨RdT.kti (KTI.lst (s7 _ _ hl6)) (RdT.same s7 (RdT.kti (KTI.off2 hP1 o26) x1)), x2⟩
            · cases List.mem_singleton.mp hq
              refine ⟨⟨st, ?_, ?_⟩, ?_, ⟨a0, by show a ≤ 1 + Tt - 1; omega⟩, ⟨b0, by show b ≤ 1 + Tt - 1; omega⟩, hm1⟩
              · show (upd (upd H6 ta _) rl _) ta = _
                rw [upd_ne ntr, upd_same]
              · show (upd (upd H6 ta _) rl _) st = _
                rw [upd_ne nst, upd_ne nstt]
                exact est6
              · show ((ms.length : Nat) : Int) = 1 + S
                rw [hml]
                omega
    · obtain ⟨v4, v5, ks, rfl, o1, hP1, hl1, hlen, hks⟩ := h
      refine ⟨_, rfl, _, rfl, _, rfl, 1 + S, 1 + Tt, rl, ks, rfl, hl1, fun q hq => (hks q hq).1, by omega, fun H7 t L s7 hL hL4 hpw hA => ?_⟩
      refine k H7 t _ (Off2.trans o1 (Off2.same s7)) (hP1.same s7) ⟨⟨by show 1 ≤ 1 + S; omega, by show 1 + S ≤ 2; omega⟩, ⟨by show 1 ≤ 1 + Tt; omega, by show 1 + Tt ≤ 3; omega⟩, ?_, fun kk hk => ?_, ?_⟩ hA
      · show (L.map (·.2)).length ≤ 4
        rw [List.length_map]
        exact hL4
      · obtain ⟨q, hq, rfl⟩ := List.mem_map.mp hk
        exact (hks q (hL q hq)).2
      · show (L.map (·.2)).Pairwise rlt
        rw [List.pairwise_map]
        exact hpw
end
end L2.Dk
set_option Elab.async false
set_option linter.all false
set_option maxRecDepth 100000
set_option maxHeartbeats 4000000
/-! A word of the desk, caught. -/
namespace L2.Dk
open PySem PySem.Spec PyProof.Rows
open TL
section
variable {X : Cx} {CX : CXT} {k : Nat} {f C : Addr} {fd : FuncData} {ps : List Str} {sp : Sp} {dvs : List V} {ds : List Value} {E : St → XK} {m : Str} {p pos apos : Pos} {o e : Expr} {es : List Expr} {t : TA} {ta : TE}
def tMethAt (C : Addr) (m : Str) (sp : Sp) (dvs : List V) (E : St → XK) (ta : TE) (t : TA) : TE := fun σ H Q => ta σ H fun x H1 => ∃ a dx fs, x = .ref a ∧ H1 a = some (.ins C dx fs) ∧ fs.lookup m = none ∧ t σ H1 fun vs H2 => sp (x :: (vs ++ dvs)) H2 Q (E σ)
/-- o.m(e, ..) where what is raised is wished for at the caller's slots -/
theorem pe_methAt {pl : Sem Bool} (he : PE X o ta) (c : Cls X.K C) (hm : Meth X.K C m f) (F : FnOk X.prog X.w X.K X.mg X.base CX k f fd ps sp) (hr : Room k X.A) (hb : Binds X.K fd ps ds) (hd : Vals dvs ds) (hx : ∀ σ, PassesAt CX X σ (E σ)) (ha : PA X (e :: es) t)
    (hst : starEach (e :: es) X.env = (false, eval e X.env) :: starEach es X.env := by rfl) (hpl : (backTo pos (starEach es X.env)).any (·.1) = false := by rfl)
    (ht : eval (.Call (.Attribute o m apos) (e :: es) [] pos) X.env = (do
      let ov ← eval o X.env
      standAt apos.atName
      let (f, first) ← holding [ov] (getMethod ov m pl)
      callWith pos f first (backTo pos (starEach (e :: es) X.env)) (backToKw pos (keywordEach [] X.env))) := by rfl) :
    PE X (.Call (.Attribute o m apos) (e :: es) [] pos) (tMethAt C m sp dvs E ta t) := by
  refine ⟨fun pins s σ H Q I h => ?_⟩
  refine PySem.W.methodCall_KW (pl := pl) (thn (he.run pins s σ H _ I h) fun u s1 ⟨x, H1, I1, rx, a, dx, fs, ex, ea, l, q⟩ => ?_) ht
  subst ex
  obtain rfl : u = Value.ref a := rx
  refine getmeth_ok I1 ea c hm l ?_
  refine PySem.W.callWith_K (first := [.ref a]) (h₀ := X.base) I.ok.mod.kin hm.kp (thn (ha.run pos pins s1 σ H1 _ I1 q) fun us s2 ⟨vs, H2, I2, r, q2⟩ => ⟨I2.kIn, ?_⟩) hst hpl
  exact run_fnSD (us := .ref a :: us) (vs := .ref a :: vs) F hr hb hd (hx σ) I2 (.cons rfl r) q2
end
section
variable {w : World} {K : PySem.W.Frag} {mg : Str → Option Value} {base : Heap}
def WordDo (K : PySem.W.Frag) (H : Hp) (hist : Past) (z : Str) (Q : VK) : Prop :=
  (Says z none ∧ ∀ H' t, Same H H' → H' t = some (.tup [.str "form", .non]) → Q (.ref t) H') ∨
  (∃ n, z = lineProg n "x" ∧ Nm n ∧ ∀ H' t, Same H H' → H' t = some (.tup [.str "line", .int 1]) → Q (.ref t) H') ∨
  (z = "undo" ∧ hist = [] ∧ ∀ H' t, Same H H' → H' t = some (.tup [.str "nothing", .non]) → Q (.ref t) H')
def spWord (K : PySem.W.Frag) : Sp := fun vs H Q _ => ∃ (p dk dp : Addr) (N : List Str) (f : Str → Option Parts) (hist : Past) (z : Str), vs = [.ref p, .str z] ∧ DeskAt K H p dk dp N f hist ∧ N.length ≤ 20 ∧ (∀ n ∈ N, Nm n) ∧ hist.length ≤ 1000 ∧ WordDo K H hist z Q
theorem sc_law_desk_word : FnScope ["_law_desk", "_law_line", "_law_word", "error"] ["_law_desk", "_law_line"] (defScope s_law_desk_word) := ⟨rfl, rfl, rfl, by decide +kernel, rfl, by decide +kernel, by decide +kernel⟩
theorem c_law_desk_word (T : Txt w K mg) : Cal w K mg base CX0 10 "_law_desk_word" (He.ga K "_law_desk_word") ["_law_desk", "_law_line"] (spWord K) := by
  obtain ⟨fd, F⟩ := T.d_law_desk_word
  obtain ⟨fd1, f1, m1, b1, G1⟩ := c_Desk_tell (base := base) T
  refine ⟨fd, T.g_law_desk_word, F.kp, F.bindsN fun _ _ _ _ _ _ us hl => match us, hl with | [_, _], _ => rfl, ?_⟩
  refine F.ok sc_law_desk_word (fun vs H Q E h => ?_) (fun cdv A outer s H vs Q E hr h => ?_)
  · obtain ⟨p, dk, dp, N, f, hist, z, rfl, _⟩ := h
    rfl
  · obtain ⟨p, dk, dp, N, f, hist, z, rfl, hD, hN, hNm, hh, hW⟩ := h
    refine ⟨_, pss_cons (ps_set (i := 2) sc_law_desk_word.nd rfl (Or.inl rfl) (pe_tup (pa_cons pe_str (pa_cons pe_non pa_nil))))
      (pss_cons (ps_try_mix (Wout := fun _ _ _ _ => False) rfl rfl sc_law_desk_word.nd takes0
        (fun W pn xe tk _ => pss_one (ps_set (i := 2) sc_law_desk_word.nd rfl (Or.inl rfl) (pe_tup (pa_cons pe_str (pa_cons (pe_methAt (E := WE W) (pv 0) T.cl_Desk m1 G1 hr b1 .nil (fun σ => passAt tk σ) (pa_cons (pv 1) pa_nil)) pa_nil)))))
        (.cons (ix := some 3) ⟨by rfl, by decide, .inl T.g_NoName⟩ ⟨rfl, rfl⟩ (fun a oe cls d pn hz hf => pss_never)
        (.cons (ix := some 3) ⟨by rfl, by decide, .inl T.g_BadText⟩ ⟨rfl, rfl⟩ (fun a oe cls d pn hz hf => pss_one (ps_set (i := 2) sc_law_desk_word.nd rfl (Or.inl rfl) (pe_tup (pa_cons pe_str (pa_cons (pe_byE T.er_BadText.exC T.ef_BadText.2.2.2 T.ef_BadText.1 T.ef_BadText.2.1 T.ef_BadText.2.2.1 hz hf (pv 3)) pa_nil)))))
        (.cons (ix := some 3) ⟨by rfl, by decide, .inl T.g_BadProgram⟩ ⟨rfl, rfl⟩ (fun a oe cls d pn hz hf => pss_never)
        (.cons (ix := none) ⟨by rfl, by decide, .inl T.g_NothingDone⟩ trivial (fun a oe cls d pn hz hf => pss_one (ps_set (i := 2) sc_law_desk_word.nd rfl (Or.inl rfl) (pe_tup (pa_cons pe_str (pa_cons pe_non pa_nil)))))
        (.cons (ix := none) ⟨by rfl, by decide, .inl T.g_NoLine⟩ trivial (fun a oe cls d pn hz hf => pss_one (ps_set (i := 2) sc_law_desk_word.nd rfl (Or.inl rfl) (pe_tup (pa_cons pe_str (pa_cons pe_non pa_nil)))))
        (.cons (ix := none) ⟨by rfl, by decide, .inl T.g_NoBox⟩ trivial (fun a oe cls d pn hz hf => pss_never)
        (.cons (ix := none) ⟨by rfl, by decide, .inl T.g_NoTable⟩ trivial (fun a oe cls d pn hz hf => pss_never)
        (.cons (ix := some 3) ⟨by rfl, by decide, .inl T.g_TooMany⟩ ⟨rfl, rfl⟩ (fun a oe cls d pn hz hf => pss_never)
        (.cons (ix := none) ⟨by rfl, by decide, .inl T.g_NotWorking⟩ trivial (fun a oe cls d pn hz hf => pss_never)
        (.cons (ix := none) ⟨by rfl, by decide, .inl T.g_TurnError⟩ trivial (fun a oe cls d pn hz hf => pss_never)
        .nil)))))))))))
      (pss_one (ps_ret (pv 2)))), ?_⟩
    refine ⟨by show 2 ≤ sizeLine; decide, fun t0 ht0 => ?_⟩
    have s0 : Same H (upd H t0 (.tup [V.str "other", V.non])) := Same.new (Same.refl _) ht0
    have d0 := hD.same s0
    generalize (upd H t0 (.tup [V.str "other", V.non])) = H0 at *
    obtain ⟨dx, kvs, g, xs, a1, a2, a3, a4, a5, a6⟩ := id d0
    refine ⟨_, rfl, p, dx, _, rfl, a1, deskF_no _ _ (by decide +kernel) (by decide +kernel), _, rfl, p, dk, dp, N, f, hist, z, rfl, d0, hN, hNm, hh, ?_⟩
    rcases hW with ⟨S, k⟩ | ⟨n, rfl, hn, k⟩ | ⟨rfl, rfl, k⟩
    · refine .inl ⟨S, fun H2 s2 => ?_⟩
      refine ⟨false, T.x_NoLine_NoName, (fun q => nomatch q), fun _ => ⟨false, T.x_NoLine_BadText, (fun q => nomatch q), fun _ => ⟨false, T.x_NoLine_BadProgram, (fun q => nomatch q), fun _ => ⟨false, T.x_NoLine_NothingDone, (fun q => nomatch q), fun _ => ⟨true, T.x_NoLine_NoLine, fun _ a ha => ?_, (fun q => nomatch q)⟩⟩⟩⟩⟩
      refine ⟨by show 2 ≤ sizeLine; decide, fun t1 ht1 => ?_⟩
      exact ⟨_, rfl, k _ t1 (Same.new (Same.trans s0 s2) ht1) upd_same⟩
    · refine .inr (.inr (.inr (.inr (.inl ⟨n, rfl, hn, fun H2 d s2 hd => ?_⟩))))
      refine ⟨false, T.x_BadText_NoName, (fun q => nomatch q), fun _ => ⟨true, T.x_BadText_BadText, fun _ a ha => ?_, (fun q => nomatch q)⟩⟩
      refine ⟨_, rfl, rfl, rfl, d, V.int 1, rfl, hd, by show 2 ≤ sizeLine; decide, fun t1 ht1 => ?_⟩
      exact ⟨_, rfl, k _ t1 (Same.new (Same.trans s0 s2) ht1) upd_same⟩
    · refine .inr (.inr (.inl ⟨rfl, fun _ H2 s2 => ?_, fun hist' n o e => ?_⟩))
      · refine ⟨false, T.x_NothingDone_NoName, (fun q => nomatch q), fun _ => ⟨false, T.x_NothingDone_BadText, (fun q => nomatch q), fun _ => ⟨false, T.x_NothingDone_BadProgram, (fun q => nomatch q), fun _ => ⟨true, T.x_NothingDone_NothingDone, fun _ a ha => ?_, (fun q => nomatch q)⟩⟩⟩⟩
        refine ⟨by show 2 ≤ sizeLine; decide, fun t1 ht1 => ?_⟩
        exact ⟨_, rfl, k _ t1 (Same.new (Same.trans s0 s2) ht1) upd_same⟩
      · have := congrArg List.length e
        rw [List.length_append] at this
        cases this
end
end L2.Dk
set_option Elab.async false
set_option linter.all false
set_option maxRecDepth 100000
set_option maxHeartbeats 4000000
/-! The law's names; what is shown. -/
namespace L2.Dk
open PySem PySem.Spec PyProof.Rows
open TL
section
variable {w : World} {K : PySem.W.Frag} {mg : Str → Option Value} {base : Heap}
/-! ### the word of the names -/
def spNamesWord : Sp := fun vs H Q _ => ∃ (d : Addr) (kvs : List (Key × V)) (N : List Str) (g : Str → Option V) (f : Str → Option Parts), vs = [.ref d] ∧ H d = some (.dK kvs) ∧ KD kvs N g ∧ N.length ≤ 20 ∧ (∀ n ∈ N, Nm n) ∧ (∀ n, (g n).isSome = (f n).isSome) ∧
  ∀ H' t, Same H H' → NamesT f t → Q (.str t) H'
theorem sc_law_names_word : FnScope ["_law_kept"] ["_law_kept"] (defScope s_law_names_word) := ⟨rfl, rfl, rfl, by decide +kernel, rfl, by decide +kernel, by decide +kernel⟩
theorem kV_keys {kvs : List (Key × V)} {ns : List Str} (e : kvs.map (·.1) = ns.map Sum.inr) : (kvs.map fun kv => kV kv.1) = ns.map V.str := by
  have : (kvs.map fun kv => kV kv.1) = (kvs.map (·.1)).map kV := by rw [List.map_map]; rfl
  rw [this, e, List.map_map]
  rfl
theorem c_law_names_word (T : Txt w K mg) : Cal w K mg base CX0 1 "_law_names_word" (He.ga K "_law_names_word") ["_law_kept"] spNamesWord := by
  obtain ⟨fd, F⟩ := T.d_law_names_word
  refine ⟨fd, T.g_law_names_word, F.kp, F.bindsN fun _ _ _ _ _ _ us hl => match us, hl with | [_], _ => rfl, ?_⟩
  refine F.ok sc_law_names_word (fun vs H Q E h => ?_) (fun cdv A outer s H vs Q E hr h => ?_)
  · obtain ⟨d, kvs, N, g, f, rfl, _⟩ := h
    rfl
  · obtain ⟨d, kvs, N, g, f, rfl, hd, hK, hN, hNm, hgf, k⟩ := h
    obtain ⟨ns, en, nd, hs⟩ := hK.keys
    have hlen : ns.length ≤ 20 := Nat.le_trans (nodup_len nd hs) hN
    have hkl : kvs.length = ns.length := by
      have := congrArg List.length en
      rw [List.length_map, List.length_map] at this
      exact this
    refine ⟨_, pss_cons (ps_if (pt_cmpR op_eq (pe_callB call_lenD (by rfl) T.f_len (by decide +kernel) (pa_cons (pv 0) pa_nil)) pe_int (nomark _)) (pss_one (ps_ret pe_str)) pss_nil)
      (pss_one (ps_ret (pe_join pe_str (pe_callB cr_sortedS (by rfl) T.f_sorted (by decide +kernel) (pa_cons (pe_callTy (call_listD rfl) (by rfl) T.f_list (by decide +kernel) (pa_cons (pv 0) pa_nil)) pa_nil))))), ?_⟩
    refine ⟨_, rfl, d, kvs, rfl, hd, rfl, _, rfl, ?_⟩
    by_cases h0 : ns = []
    · have hk0 : kvs.length = 0 := by rw [hkl, h0]; rfl
      refine ite_t (decide_eq_true (by rw [hk0]; rfl)) ?_
      exact k H _ (Same.refl _) ⟨[], rfl, List.nodup_nil, fun n => by rw [← hgf n, ← hK.mem en n, h0], by rw [if_pos rfl]⟩
    · have hk0 : kvs.length ≠ 0 := by
        rw [hkl]
        exact fun e => h0 (List.length_eq_zero_iff.mp e)
      refine ite_f (decide_eq_false (by intro e; have := V.int.inj e; omega)) ?_
      refine ⟨⟨_, rfl⟩, _, rfl, d, kvs, rfl, .of hd, fun l hl => ?_⟩
      have s1 : Same H (upd H l (.lst (kvs.map fun kv => kV kv.1))) := Same.new (Same.refl _) hl
      refine ⟨l, ns, rfl, SqL.of (by rw [upd_same, kV_keys en]), Nat.lt_of_le_of_lt hlen (by decide), fun ys q perm srt hq => ?_⟩
      have hyN : ∀ n ∈ ys, Nm n := fun n hn => hNm n (hs n (perm.mem_iff.mp hn))
      have hyl : ys.length ≤ 20 := by rw [perm.length_eq]; exact hlen
      have hy0 : ys ≠ [] := fun e => h0 (by rw [e] at perm; exact List.nil_perm.mp perm)
      refine ⟨_, q, ys, rfl, rfl, .inl (SqL.of upd_same), ?_, k _ _ (Same.new s1 hq) ⟨ys, srt, perm.nodup_iff.mpr nd, fun n => by rw [perm.mem_iff, hK.mem en, hgf], by rw [if_neg hy0]⟩⟩
      have h6 := sum_le (ys := ys) (m := 8) fun n hn => (hyN n hn).hi
      have h8 : (" " : Str).length = 1 := by decide +kernel
      rw [h8]
      omega
/-! ### the names -/
def spNames : Sp := fun vs H Q _ => ∃ (p c : Addr), vs = [.ref p] ∧ PoolAt H p c ∧ ∀ H' (l : Addr) (N : List Str), Off2 p c H H' → PoolAt H' p c → H l = none → l ≠ p → l ≠ c → H' l = some (.lst (N.map V.str)) → 0 < N.length → N.length ≤ 12 → (∀ n ∈ N, Nm n) → Q (.ref l) H'
theorem sc_law_names : FnScope ["_law_pool_here", "_law_found", "_law_k", "_law_size", "_law_j"] ["_law_pool_here"] (defScope s_law_names) := ⟨rfl, rfl, rfl, by decide +kernel, rfl, by decide +kernel, by decide +kernel⟩
theorem alpha_at {j : Nat} (h : j < 26) : (Str.ofString "abcdefghijklmnopqrstuvwxyz").cps.toList[j]? = some (97 + j) := by
  have : ∀ d : Fin 26, (Str.ofString "abcdefghijklmnopqrstuvwxyz").cps.toList[d.1]? = some (97 + d.1) := by decide +kernel
  exact this ⟨j, h⟩
/-- a sign of a name -/
def Sign (z : Str) : Prop := ∃ c : Nat, z = ⟨#[c]⟩ ∧ 97 ≤ c ∧ c ≤ 122
theorem signs_flat : ∀ {ms : List Str}, (∀ z ∈ ms, Sign z) → ((ms.map tl).flatten.length = ms.length ∧ ∀ c ∈ (ms.map tl).flatten, 97 ≤ c ∧ c ≤ 122)
  | [], _ => ⟨rfl, fun c h => by cases h⟩
  | z :: r, h => by
    obtain ⟨c, rfl, h1, h2⟩ := h z (List.mem_cons_self ..)
    obtain ⟨i1, i2⟩ := signs_flat (ms := r) fun y hy => h y (List.mem_cons_of_mem _ hy)
    refine ⟨?_, fun d hd => ?_⟩
    · show ([c] ++ (r.map tl).flatten).length = r.length + 1
      rw [List.length_append, i1]
      show 1 + r.length = r.length + 1
      omega
    · rcases List.mem_append.mp (show d ∈ [c] ++ (r.map tl).flatten from hd) with hd | hd
      · cases List.mem_singleton.mp hd
        exact ⟨h1, h2⟩
      · exact i2 d hd
theorem signs_name {ms : List Str} (h : ∀ z ∈ ms, Sign z) (h1 : 1 ≤ ms.length) (h8 : ms.length ≤ 8) : Nm (Txt.join "" ms) := by
  have e : tl (Txt.join "" ms) = (ms.map tl).flatten := by
    rw [join_eq, tl_join, show tl ("" : Str) = [] by decide +kernel, joinL_nil]
  obtain ⟨i1, i2⟩ := signs_flat h
  refine ⟨?_, ?_, fun c hc => i2 c (by rw [← e]; exact hc)⟩
  · rw [len_tl, e, i1]
    exact h1
  · rw [len_tl, e, i1]
    exact h8
theorem c_law_names (T : Txt w K mg) : Cal w K mg base CX0 2 "_law_names" (He.ga K "_law_names") ["_law_pool_here"] spNames := by
  obtain ⟨fd, F⟩ := T.d_law_names
  obtain ⟨fd1, g1, k1, b1, G1⟩ := c_law_draw (base := base) T
  refine ⟨fd, T.g_law_names, F.kp, F.bindsN fun _ _ _ _ _ _ us hl => match us, hl with | [_], _ => rfl, ?_⟩
  refine F.ok sc_law_names (fun vs H Q E h => ?_) (fun cdv A outer s H vs Q E hr h => ?_)
  · obtain ⟨p, c, rfl, _⟩ := h
    rfl
  · obtain ⟨p, c, rfl, hP, k⟩ := h
    have hu : _ + 64 < cLine := hr.units
    refine ⟨_, PSs.nox (pss_cons (ps_set (i := 1) sc_law_names.nd rfl (Or.inl rfl) (pe_lst pa_nil))
      (pss_cons (ps_for PassesOwn.never rfl (pi_range1 (by rfl) T.f_range (pa_cons pe_int pa_nil)) (pg_name (i := 2) sc_law_names.nd rfl (Or.inl rfl))
        (pss_cons (ps_set (i := 3) sc_law_names.nd rfl (Or.inl rfl) (pe_op op_add pe_int (pe_call G1 hr (by rfl) g1 k1 b1 .nil pass0 (pa_cons (pv 0) (pa_cons pe_int pa_nil)))))
        (pss_one (ps_expr (pe_bm PySem.F.plainAttrs_list PySem.F.slot_list_append PySem.F.type_list_append mt_append (pv 1) (pa_cons (pe_join pe_str (pe_lc (own := [("_law_j", 4)]) (g := gName 4) (tt := tYes) rfl sc_law_names.nd (pi_range1 (by rfl) T.f_range (pa_cons (pv 3) pa_nil))
            (blkOk_by (N := ["_law_pool_here", "_law_found", "_law_k", "_law_size", "_law_j"]) (sc := defScope s_law_names) (by decide +kernel))
            (fun _ _ _ _ _ => pg_name (i := 4) sc_law_names.nd rfl (Or.inl rfl)) (fun _ _ _ _ _ => pts_nil)
            (fun _ _ _ _ _ => pe_ix ix_str pe_str (pe_call G1 hr (by rfl) g1 k1 b1 .nil pass0 (pa_cons (pv 0) (pa_cons pe_int pa_nil))) (fun _ _ => rfl)))) pa_nil))))))
      (pss_one (ps_ret (pe_ss (ssS rfl hu) (by rfl) T.f_sorted (by rfl) T.f_set (pv 1)))))), ?_⟩
    refine ⟨Nat.zero_le _, fun fl hfl => ?_⟩
    obtain ⟨nfp, nfc⟩ := hP.nep hfl
    have s1 : Same H (upd H fl (.lst [])) := Same.new (Same.refl _) hfl
    refine ⟨12, rfl, by decide, by decide, ?_⟩
    refine for_it (walk_range (lo := 0) (n := (12 : Int).toNat)) (fun i σ H' => ∃ (v2 v3 : Option V) (ys : List Str), σ = [some (.ref p), some (.ref fl), v2, v3, none] ∧ Off2 p c H H' ∧ PoolAt H' p c ∧ H' fl = some (.lst (ys.map V.str)) ∧ ys.length = i ∧ ∀ y ∈ ys, Nm y)
      ⟨none, none, [], rfl, Off2.same s1, hP.same s1, upd_same, rfl, fun y hy => by cases hy⟩ (fun i σ H' _ h => True.intro) (fun i x σ H1 H2 hi h y => ?_) (fun σ H' h => ?_)
    · obtain ⟨v2, v3, ys, rfl, o1, hP1, hl1, hlen, hys⟩ := h
      obtain ⟨rfl, rfl⟩ := y
      refine ⟨_, rfl, p, c, 8, rfl, hP1, by decide, by decide, fun H3 sz z0 z1 o3 hP3 => ?_⟩
      refine ⟨_, _, rfl, rfl, ?_⟩
      have hl3 := o3 _ _ nfp nfc hl1
      refine ⟨_, rfl, .inl ⟨rfl, _, SqL.of hl3⟩, ⟨_, rfl⟩, _, rfl, 1 + sz, rfl, by omega, by omega, fun D hD => ?_⟩
      obtain ⟨nDp, nDc⟩ := hP3.nep hD
      refine lc_it (walk_range (lo := 0) (n := (1 + sz).toNat)) (fun j H' => Off2 p c H3 H' ∧ PoolAt H' p c ∧ ∃ ms : List Str, H' D = some (.lst (ms.map V.str)) ∧ ms.length = j ∧ ∀ z ∈ ms, Sign z)
        ⟨Off2.same (Same.new (Same.refl _) hD), hP3.same (Same.new (Same.refl _) hD), [], upd_same, rfl, fun n hn => by cases hn⟩ (fun _ _ _ _ => True.intro) (fun j x H4 H5 hj h y => ?_) (fun H4 h => ?_)
      · obtain ⟨rfl, rfl⟩ := y
        obtain ⟨o4, hP4, ms, hms, hml, hm1⟩ := h
        refine ⟨rfl, tYes_go ?_⟩
        refine ⟨_, rfl, p, c, 26, rfl, hP4, by decide, by decide, fun H6 d d0 d1 o6 hP6 => ?_⟩
        obtain ⟨e, rfl⟩ : ∃ e : Nat, d = (e : Int) := ⟨d.toNat, by omega⟩
        have he : e < 26 := by omega
        refine ⟨_, _, 97 + e, rfl, rfl, by decide +kernel, atI_nat (alpha_at he), _, o6 _ _ nDp nDc hms, ?_, ?_⟩
        · rw [List.length_map, hml]
          exact Nat.lt_of_lt_of_le hj (Nat.le_trans (show (1 + sz).toNat ≤ 8 by omega) (by decide))
        · refine ⟨fun b o hb1 hb2 e => ?_, ?_, ms ++ [⟨#[97 + e]⟩], ?_, ?_, fun n hn => ?_⟩
          · rw [upd_ne (ne_of_none e hD)]
            exact o6 _ _ hb1 hb2 (o4 _ _ hb1 hb2 e)
          · obtain ⟨a, b, c', q1, q2⟩ := hP6
            exact ⟨a, b, c', (upd_ne nDp.symm).trans q1, (upd_ne nDc.symm).trans q2⟩
          · rw [upd_same, List.map_append]
            rfl
          · rw [List.length_append, hml]
            rfl
          · rcases List.mem_append.mp hn with hn | hn
            · exact hm1 n hn
            · cases List.mem_singleton.mp hn
              exact ⟨97 + e, rfl, by omega, by omega⟩
      · obtain ⟨o4, hP4, ms, hms, hml, hm1⟩ := h
        have hnm : Nm (Txt.join "" ms) := signs_name hm1 (by rw [hml]; omega) (by rw [hml]; omega)
        have hl4 := o4 _ _ nfp nfc hl3
        refine ⟨_, D, ms, rfl, rfl, .inl (SqL.of hms), ?_, fl, _, _, rfl, rfl, hl4, ?_, ?_⟩
        · have h6 := sum_le (ys := ms) (m := 1) fun z hz => by
            obtain ⟨c, rfl, _⟩ := hm1 z hz
            exact Nat.le_refl 1
          have h8 : ("" : Str).length = 0 := by decide +kernel
          rw [h8]
          omega
        · rw [List.length_map, hlen]
          exact Nat.lt_of_lt_of_le hi (by decide)
        · refine ⟨_, _, ys ++ [Txt.join "" ms], rfl, fun x o hb1 hb2 e => ?_, ?_, ?_, ?_, fun y hy => ?_⟩
          · rw [upd_ne (ne_of_none e hfl)]
            exact o4 _ _ hb1 hb2 (o3 _ _ hb1 hb2 (o1 _ _ hb1 hb2 e))
          · obtain ⟨u, v, c', q1, q2⟩ := hP4
            exact ⟨u, v, c', (upd_ne nfp.symm).trans q1, (upd_ne nfc.symm).trans q2⟩
          · rw [upd_same, List.map_append]
            rfl
          · rw [List.length_append, hlen]
            rfl
          · rcases List.mem_append.mp hy with hy | hy
            · exact hys y hy
            · cases List.mem_singleton.mp hy
              exact hnm
    · obtain ⟨v2, v3, ys, rfl, o1, hP1, hl1, hlen, hys⟩ := h
      have h12 : ys.length = 12 := hlen
      refine ⟨_, rfl, fl, ys, rfl, SqL.of hl1, by omega, by omega, fun L l hl hL h0 hle => ?_⟩
      obtain ⟨nlp, nlc⟩ := hP1.nep hl
      have hl0 : H l = none := by
        cases e : H l with
        | none => rfl
        | some o =>
          rw [o1 _ _ nlp nlc e] at hl
          cases hl
      exact k _ l L (Off2.trans o1 (Off2.same (Same.new (Same.refl _) hl))) (hP1.same (Same.new (Same.refl _) hl)) hl0 nlp nlc upd_same h0 (by omega) fun n hn => hys n (hL n hn)
/-! ### what is shown -/
def spShows (K : PySem.W.Frag) : Sp := fun vs H Q _ => ∃ (p dk dp : Addr) (N : List Str) (f : Str → Option Parts) (hist : Past) (d : Addr) (kvs : List (Key × V)), vs = [.ref p, .ref d] ∧ DeskAt K H p dk dp N f hist ∧ N.length ≤ 20 ∧ (∀ n ∈ N, Nm n) ∧ hist.length ≤ 1000 ∧
  H d = some (.dK kvs) ∧ KD kvs N (fun n => (f n).map fun P => V.str (barT P)) ∧ d ≠ dk ∧ ∀ H', Same H H' → Q (.bl true) H'
theorem sc_law_shows : FnScope ["_law_desk", "_law_kept", "_law_name"] ["_law_desk", "_law_kept"] (defScope s_law_shows) := ⟨rfl, rfl, rfl, by decide +kernel, rfl, by decide +kernel, by decide +kernel⟩
theorem c_law_shows (T : Txt w K mg) : Cal w K mg base CX0 10 "_law_shows" (He.ga K "_law_shows") ["_law_desk", "_law_kept"] (spShows K) := by
  obtain ⟨fd, F⟩ := T.d_law_shows
  obtain ⟨fd1, f1, m1, b1, G1⟩ := c_Desk_tell (base := base) T
  obtain ⟨fd2, g2, k2, b2, G2⟩ := c_law_names_word (base := base) T
  refine ⟨fd, T.g_law_shows, F.kp, F.bindsN fun _ _ _ _ _ _ us hl => match us, hl with | [_, _], _ => rfl, ?_⟩
  refine F.ok sc_law_shows (fun vs H Q E h => ?_) (fun cdv A outer s H vs Q E hr h => ?_)
  · obtain ⟨p, dk, dp, N, f, hist, d, kvs, rfl, _⟩ := h
    rfl
  · obtain ⟨p, dk, dp, N, f, hist, d, kvs, rfl, hD, hN, hNm, hh, hd, hK, ndk, k⟩ := h
    have hu := hu_of hr
    refine ⟨_, PSs.nox (pss_cons (ps_if (pt_cmpR op_ne (pe_meth (pv 0) T.cl_Desk m1 G1 hr b1 .nil passF (pa_cons pe_str pa_nil)) (pe_call G2 (hr.mono (by decide)) (by rfl) g2 k2 b2 .nil pass0 (pa_cons (pv 1) pa_nil)) (nomark _)) pss_never pss_nil)
      (pss_cons (ps_lock (ps_for PassesOwn.never rfl (pi_keys (pv 1)) (pg_name (i := 2) sc_law_shows.nd rfl (Or.inl rfl))
        (pss_one (ps_if (pt_cmpR op_ne (pe_meth (pv 0) T.cl_Desk m1 G1 hr b1 .nil passF (pa_cons (pe_op op_add_str pe_str (pv 2)) pa_nil)) (pe_dget hu (pv 1) (pv 2) (fun _ _ => rfl)) (nomark _)) pss_never pss_nil))))
      (pss_one (ps_ret pe_bl)))), ?_⟩
    obtain ⟨dx, kvs0, g, xs, a1, a2, a3, a4, a5, a6⟩ := id hD
    refine ⟨_, rfl, p, dx, _, rfl, a1, deskF_no _ _ (by decide +kernel) (by decide +kernel), p, dk, dp, N, f, hist, "names", rfl, hD, hN, hNm, hh, .inr (.inl ⟨rfl, fun H1 t1 s1 nt1 => ?_⟩)⟩
    refine ⟨_, rfl, d, kvs, N, _, f, rfl, s1 _ _ hd, hK, hN, hNm, fun n => by rw [Option.isSome_map], fun H2 t2 s2 nt2 => ?_⟩
    refine ⟨rfl, _, rfl, ite_f ?_ ?_⟩
    · rw [nt1.uniq nt2 fun _ => rfl, decide_eq_true rfl]
      rfl
    have s02 := Same.trans s1 s2
    have hd2 := s02 _ _ hd
    have D2 := hD.same s02
    refine ⟨d, _, hd2, trivial, fun od => ?_⟩
    have hf : (upd H2 d (.frz od (.dK kvs))) d = some (.frz od (.dK kvs)) := upd_same
    have Df : DeskAt K (upd H2 d (.frz od (.dK kvs))) p dk dp N f hist := D2.keep (KTI.dk hd2) (upd_ne ndk.symm) (upd_ne (ne_of (s02 _ _ a3) hd2 (by intro z; cases z)))
    have back : ∀ H3, Same (upd H2 d (.frz od (.dK kvs))) H3 → Same H (upd H3 d (.dK kvs)) := fun H3 s3 b o e => by
      by_cases hb : b = d
      · subst hb
        rw [upd_same]
        rw [s02 _ _ e] at hd2
        exact hd2.symm
      · rw [upd_ne hb]
        refine s3 _ _ ?_
        rw [upd_ne hb]
        exact s02 _ _ e
    generalize (upd H2 d (.frz od (.dK kvs))) = Hf at *
    refine ⟨_, rfl, d, od, rfl, .inl ⟨kvs, hf, ?_⟩⟩
    refine for_it (walk_keys (d := d) (o := od) (kvs := kvs)) (fun i σ H' => ∃ v2 : Option V, σ = [some (.ref p), some (.ref d), v2] ∧ Same Hf H') ⟨none, rfl, Same.refl _⟩ (fun i σ H' _ h => ?_) (fun i x σ H3 H4 hi h y => ?_) (fun σ H' h => ?_)
    · obtain ⟨_, _, s'⟩ := h
      exact s' _ _ hf
    · obtain ⟨v2, rfl, s'⟩ := h
      obtain ⟨rfl, ky, v, hkv, rfl⟩ := y
      obtain ⟨ns, en, nd, hs⟩ := hK.keys
      obtain ⟨n, rfl, hn⟩ : ∃ n, ky = Sum.inr n ∧ n ∈ ns := by
        have : (kvs.map (·.1))[i]? = some ky := by rw [List.getElem?_map, hkv]; rfl
        rw [en, List.getElem?_map] at this
        cases e : ns[i]? with
        | none => rw [e] at this; cases this
        | some n => rw [e] at this; exact ⟨n, (Option.some.inj this).symm, List.mem_of_getElem? e⟩
      have hnm := hNm n (hs n hn)
      obtain ⟨P, hP⟩ : ∃ P, f n = some P := by
        have := (hK.mem en n).mp hn
        rw [Option.isSome_map] at this
        exact Option.isSome_iff_exists.mp this
      have hval : valV kvs (Sum.inr n) = some (V.str (barT P)) := by rw [hK.at_ n, hP]; rfl
      have D4 := Df.same s'
      obtain ⟨dx4, kvs4, g4, xs4, c1, c2, c3, c4, c5, c6⟩ := id D4
      refine ⟨_, rfl, p, dx4, _, rfl, c1, deskF_no _ _ (by decide +kernel) (by decide +kernel), _, rfl, _, _, rfl, rfl, ?_, ?_⟩
      · have h8 : ("show " : Str).length = 5 := by decide +kernel
        rw [h8]
        exact Nat.le_trans (Nat.add_le_add_left hnm.hi 5) (by decide)
      refine ⟨p, dk, dp, N, f, hist, lineShow n, rfl, D4, hN, hNm, hh, .inr (.inr (.inr (.inr (.inr (.inr ⟨n, P, rfl, hnm, hP, fun H5 s5 => ?_⟩)))))⟩
      have s45 := Same.trans s' s5
      refine ⟨_, rfl, _, rfl, d, V.str (barT P), rfl, .inl ⟨kvs, Sum.inr n, .inr ⟨od, s45 _ _ hf⟩, rfl, hval.symm⟩, rfl, _, rfl, ite_f ?_ ?_⟩
      · rw [decide_eq_true rfl]
        rfl
      · exact ⟨_, rfl, s45⟩
    · obtain ⟨v2, rfl, s'⟩ := h
      exact ⟨s' _ _ hf, k _ (back _ s')⟩
end
end L2.Dk
set_option Elab.async false
set_option linter.all false
set_option maxRecDepth 100000
set_option maxHeartbeats 4000000
/-! The law's state. -/
namespace L2.Dk
open PySem PySem.Spec PyProof.Rows
open TL
abbrev Op := Str × Option Parts
def foldF (f : Str → Option Parts) (ops : List Op) : Str → Option Parts := ops.foldl (fun f op => fset f op.1 op.2) f
def histFrom : (Str → Option Parts) → List Op → Past
  | _, [] => []
  | f, op :: r => (op.1, f op.1) :: histFrom (fset f op.1 op.2) r
theorem foldF_snoc (f : Str → Option Parts) (ops : List Op) (op : Op) : foldF f (ops ++ [op]) = fset (foldF f ops) op.1 op.2 := by
  unfold foldF
  rw [List.foldl_append]
  rfl
theorem histFrom_snoc : ∀ (ops : List Op) (f : Str → Option Parts) (op : Op), histFrom f (ops ++ [op]) = histFrom f ops ++ [(op.1, foldF f ops op.1)]
  | [], _, _ => rfl
  | o :: r, f, op => by
    show (o.1, f o.1) :: histFrom (fset f o.1 o.2) (r ++ [op]) = _
    rw [histFrom_snoc r (fset f o.1 o.2) op]
    rfl
theorem histFrom_len : ∀ (ops : List Op) (f : Str → Option Parts), (histFrom f ops).length = ops.length
  | [], _ => rfl
  | o :: r, f => by
    show (histFrom _ r).length + 1 = r.length + 1
    rw [histFrom_len r]
def F (ops : List Op) : Str → Option Parts := foldF (fun _ => none) ops
def hist (ops : List Op) : Past := histFrom (fun _ => none) ops
theorem F_snoc (ops : List Op) (n : Str) (o : Option Parts) : F (ops ++ [(n, o)]) = fset (F ops) n o := foldF_snoc _ _ _
theorem hist_snoc (ops : List Op) (n : Str) (o : Option Parts) : hist (ops ++ [(n, o)]) = hist ops ++ [(n, F ops n)] := histFrom_snoc _ _ _
theorem hist_len (ops : List Op) : (hist ops).length = ops.length := histFrom_len _ _
theorem fset_back (f : Str → Option Parts) (n : Str) (o : Option Parts) : fset (fset f n o) n (f n) = f := by
  funext m
  show (if m = n then f n else if m = n then o else f m) = f m
  by_cases h : m = n
  · rw [if_pos h, h]
  · rw [if_neg h, if_neg h]
/-- a line's text -/
def opLine (op : Op) : Str := match op.2 with
  | some P => lineProg op.1 (barT P)
  | none => lineDrop op.1
def OpOk (N : List Str) (f : Str → Option Parts) (op : Op) : Prop := op.1 ∈ N ∧ match op.2 with
  | some P => P.Tight
  | none => ∃ P, f op.1 = some P
def Ok (N : List Str) (ops : List Op) : Prop := ∀ i op, ops[i]? = some op → OpOk N (F (ops.take i)) op
theorem Ok.nil {N : List Str} : Ok N [] := fun i op h => by cases h
theorem Ok.snoc {N : List Str} {ops : List Op} {op : Op} (h : Ok N ops) (ho : OpOk N (F ops) op) : Ok N (ops ++ [op]) := by
  intro i o hi
  by_cases hl : i < ops.length
  · rw [List.getElem?_append_left hl] at hi
    rw [List.take_append_of_le_length (by omega)]
    exact h i o hi
  · rw [List.getElem?_append_right (by omega)] at hi
    have e : i - ops.length = 0 := by
      have := (List.getElem?_eq_some_iff.mp hi).1
      simp at this
      omega
    rw [e] at hi
    cases hi
    have : i = ops.length := by omega
    subst this
    rw [List.take_left]
    exact ho
/-- the texts that a state shows -/
def txt (f : Str → Option Parts) : Str → Option V := fun n => (f n).map fun P => V.str (barT P)
/-- the states' dicts -/
def StAt (H : Hp) (dk : Addr) (N : List Str) (ops : List Op) (ds : List Addr) : Prop := ds.length = ops.length + 1 ∧ ∀ i d, ds[i]? = some d → d ≠ dk ∧ ∃ kvs, H d = some (.dK kvs) ∧ KD kvs N (txt (F (ops.take i)))
theorem StAt.snoc {H : Hp} {dk : Addr} {N : List Str} {ops : List Op} {ds : List Addr} {op : Op} {d : Addr} {kvs : List (Key × V)} (h : StAt H dk N ops ds) (hn : d ≠ dk) (hd : H d = some (.dK kvs)) (hk : KD kvs N (txt (F (ops ++ [op])))) : StAt H dk N (ops ++ [op]) (ds ++ [d]) := by
  refine ⟨by rw [List.length_append, List.length_append, h.1]; rfl, fun i e hi => ?_⟩
  by_cases hl : i < ds.length
  · rw [List.getElem?_append_left hl] at hi
    have h1 := h.1
    rw [List.take_append_of_le_length (by omega)]
    exact h.2 i e hi
  · rw [List.getElem?_append_right (by omega)] at hi
    have e0 : i - ds.length = 0 := by
      have := (List.getElem?_eq_some_iff.mp hi).1
      simp at this
      omega
    rw [e0] at hi
    cases hi
    have h1 := h.1
    have : i = (ops ++ [op]).length := by rw [List.length_append]; show i = ops.length + 1; omega
    rw [this, List.take_length]
    exact ⟨hn, kvs, hd, hk⟩
theorem StAt.keep {H H' : Hp} {dk : Addr} {N : List Str} {ops : List Op} {ds : List Addr} (h : StAt H dk N ops ds) (k : ∀ b kvs, b ≠ dk → H b = some (.dK kvs) → H' b = some (.dK kvs)) : StAt H' dk N ops ds :=
  ⟨h.1, fun i d hi => by
    obtain ⟨h1, kvs, h2, h3⟩ := h.2 i d hi
    exact ⟨h1, kvs, k _ _ h1 h2, h3⟩⟩
/-- the addresses -/
structure Ad where
  p : Addr
  c : Addr
  dsk : Addr
  dk : Addr
  dp : Addr
  nl : Addr
  sl : Addr
  ll : Addr
structure Ad.Ok (A : Ad) : Prop where
  dp1 : A.dp ≠ A.p
  dp2 : A.dp ≠ A.c
  nl1 : A.nl ≠ A.p
  nl2 : A.nl ≠ A.c
  nl3 : A.nl ≠ A.dp
  sl1 : A.sl ≠ A.p
  sl2 : A.sl ≠ A.c
  sl3 : A.sl ≠ A.dp
  sl4 : A.sl ≠ A.nl
  ll1 : A.ll ≠ A.p
  ll2 : A.ll ≠ A.c
  ll3 : A.ll ≠ A.dp
  ll4 : A.ll ≠ A.nl
  ll5 : A.ll ≠ A.sl
/-- the law's heap: the lines ops, the desk as it is behind the first k of them -/
structure LI (K : PySem.W.Frag) (N : List Str) (A : Ad) (H : Hp) (ops : List Op) (k : Nat) (ds : List Addr) : Prop where
  ad : A.Ok
  pool : PoolAt H A.p A.c
  desk : DeskAt K H A.dsk A.dk A.dp N (F (ops.take k)) (hist (ops.take k))
  names : H A.nl = some (.lst (N.map V.str))
  lines : H A.ll = some (.lst ((ops.map opLine).map V.str))
  sts : H A.sl = some (.lst (ds.map V.ref))
  st : StAt H A.dk N ops ds
section
variable {K : PySem.W.Frag} {N : List Str} {A : Ad} {H H' : Hp} {ops : List Op} {k : Nat} {ds : List Addr}
theorem LI.same (h : LI K N A H ops k ds) (s : Same H H') : LI K N A H' ops k ds :=
  ⟨h.ad, h.pool.same s, h.desk.same s, s _ _ h.names, s _ _ h.lines, s _ _ h.sts, h.st.keep fun b kvs _ e => s _ _ e⟩
theorem LI.poolStep (h : LI K N A H ops k ds) (o : Off2 A.p A.c H H') (hp : PoolAt H' A.p A.c) : LI K N A H' ops k ds := by
  obtain ⟨dx, kvs, g, xs, a1, a2, a3, a4, a5, a6⟩ := id h.desk
  obtain ⟨s, kk, ns, h1, h2⟩ := id h.pool
  have dkp : ∀ b kvs, H b = some (.dK kvs) → b ≠ A.p ∧ b ≠ A.c := fun b kvs e => ⟨ne_of e h1 (by intro z; cases z), ne_of e h2 (by intro z; cases z)⟩
  refine ⟨h.ad, hp, h.desk.keep (KTI.off2 h.pool o) ((o _ _ (dkp _ _ a2).1 (dkp _ _ a2).2 a2).trans a2.symm) ((o _ _ h.ad.dp1 h.ad.dp2 a3).trans a3.symm), o _ _ h.ad.nl1 h.ad.nl2 h.names, o _ _ h.ad.ll1 h.ad.ll2 h.lines, o _ _ h.ad.sl1 h.ad.sl2 h.sts, h.st.keep fun b kvs _ e => o _ _ (dkp _ _ e).1 (dkp _ _ e).2 e⟩
theorem LI.deskStep {k' : Nat} (h : LI K N A H ops k ds) (o : Off2 A.dk A.dp H H') (hd : DeskAt K H' A.dsk A.dk A.dp N (F (ops.take k')) (hist (ops.take k'))) : LI K N A H' ops k' ds := by
  obtain ⟨dx, kvs, g, xs, a1, a2, a3, a4, a5, a6⟩ := id h.desk
  obtain ⟨s, kk, ns, h1, h2⟩ := id h.pool
  have nl : ∀ b xs, H b = some (.lst xs) → b ≠ A.dk := fun b xs e => ne_of e a2 (by intro z; cases z)
  refine ⟨h.ad, ⟨s, kk, ns, o _ _ (nl _ _ h1) h.ad.dp1.symm h1, o _ _ (nl _ _ h2) h.ad.dp2.symm h2⟩, hd, o _ _ (nl _ _ h.names) h.ad.nl3 h.names, o _ _ (nl _ _ h.lines) h.ad.ll3 h.lines, o _ _ (nl _ _ h.sts) h.ad.sl3 h.sts, h.st.keep fun b kvs hb e => o _ _ hb (ne_of e a3 (by intro z; cases z)) e⟩
/-- a new line is noted, a new state beside -/
theorem LI.noted {op : Op} {d : Addr} {kvs : List (Key × V)} (h : LI K N A H ops ops.length ds) (hn : d ≠ A.dk) (hd : H d = some (.dK kvs)) (hk : KD kvs N (txt (F (ops ++ [op])))) :
    LI K N A (upd (upd H A.ll (.lst ((ops.map opLine).map V.str ++ [.str (opLine op)]))) A.sl (.lst (ds.map V.ref ++ [.ref d]))) (ops ++ [op]) ops.length (ds ++ [d]) := by
  obtain ⟨dx, kvs', g, xs, a1, a2, a3, a4, a5, a6⟩ := id h.desk
  obtain ⟨s, kk, ns, h1, h2⟩ := id h.pool
  have keep : ∀ b o, b ≠ A.ll → b ≠ A.sl → H b = some o → (upd (upd H A.ll (.lst ((ops.map opLine).map V.str ++ [.str (opLine op)]))) A.sl (.lst (ds.map V.ref ++ [.ref d]))) b = some o := fun b o q1 q2 e => by
    rw [upd_ne q2, upd_ne q1]
    exact e
  have dn : ∀ b kvs, H b = some (.dK kvs) → b ≠ A.ll ∧ b ≠ A.sl := fun b kvs e => ⟨ne_of e h.lines (by intro z; cases z), ne_of e h.sts (by intro z; cases z)⟩
  have t1 : KTI H (upd (upd H A.ll (.lst ((ops.map opLine).map V.str ++ [.str (opLine op)]))) A.sl (.lst (ds.map V.ref ++ [.ref d]))) :=
    ⟨fun b xs e => keep _ _ (ne_of e h.lines (by intro z; cases z)) (ne_of e h.sts (by intro z; cases z)) e, fun b C dx fs e => keep _ _ (ne_of e h.lines (by intro z; cases z)) (ne_of e h.sts (by intro z; cases z)) e⟩
  have e1 : (ops ++ [op]).take ops.length = ops.take ops.length := by rw [List.take_append_of_le_length (Nat.le_refl _)]
  refine ⟨h.ad, ⟨s, kk, ns, keep _ _ h.ad.ll1.symm h.ad.sl1.symm h1, keep _ _ h.ad.ll2.symm h.ad.sl2.symm h2⟩, ?_, keep _ _ h.ad.ll4.symm h.ad.sl4.symm h.names, ?_, ?_, ?_⟩
  · rw [e1]
    exact h.desk.keep t1 ((keep _ _ (dn _ _ a2).1 (dn _ _ a2).2 a2).trans a2.symm) ((keep _ _ h.ad.ll3.symm h.ad.sl3.symm a3).trans a3.symm)
  · rw [upd_ne h.ad.ll5, upd_same, List.map_append, List.map_append]
    rfl
  · rw [upd_same, List.map_append]
    rfl
  · exact StAt.snoc (h.st.keep fun b kvs _ e => keep _ _ (dn _ _ e).1 (dn _ _ e).2 e) hn (keep _ _ (dn _ _ hd).1 (dn _ _ hd).2 hd) hk
theorem txt_put (f : Str → Option Parts) (n : Str) (P : Parts) : (fun m => if m = n then some (V.str (barT P)) else txt f m) = txt (fset f n (some P)) := by
  funext m
  show _ = (if m = n then some P else f m).map _
  by_cases h : m = n
  · rw [if_pos h, if_pos h]
    rfl
  · rw [if_neg h, if_neg h]
    rfl
theorem txt_drop (f : Str → Option Parts) (n : Str) : (fun m => if m = n then none else txt f m) = txt (fset f n none) := by
  funext m
  show _ = (if m = n then none else f m).map _
  by_cases h : m = n
  · rw [if_pos h, if_pos h]
    rfl
  · rw [if_neg h, if_neg h]
    rfl
theorem prog_x (n : Str) : ("program " : Str) ++ n ++ (" x" : Str) = lineProg n "x" := by
  refine ext_tl ?_
  unfold lineProg
  rw [tl_append, tl_append, tl_append, tl_append, tl_append, show tl (" x" : Str) = tl (" " : Str) ++ tl ("x" : Str) by decide +kernel]
  simp
end
end L2.Dk
set_option Elab.async false
set_option linter.all false
set_option maxRecDepth 100000
set_option maxHeartbeats 8000000
/-! The law. -/
namespace L2.Dk
open PySem PySem.Spec PyProof.Rows
open TL
section
variable {w : World} {K : PySem.W.Frag} {mg : Str → Option Value} {base : Heap}
theorem LI.other {N : List Str} {A : Ad} {H : Hp} {ops : List Op} {k : Nat} {ds : List Addr} {b : Addr} {kvs : List (Key × V)} {o : HO} (h : LI K N A H ops k ds) (hb : H b = some (.dK kvs)) (nb : b ≠ A.dk) (hd : ∀ (j : Nat) (d : Addr), ds[j]? = some d → d ≠ b) : LI K N A (upd H b o) ops k ds := by
  obtain ⟨dx, kv, g, xs, a1, a2, a3, a4, a5, a6⟩ := id h.desk
  obtain ⟨s, kk, ns, h1, h2⟩ := id h.pool
  have nl : ∀ a xs, H a = some (.lst xs) → (upd H b o) a = some (.lst xs) := fun a xs e => (upd_ne (ne_of e hb (by intro z; cases z))).trans e
  refine ⟨h.ad, ⟨s, kk, ns, nl _ _ h1, nl _ _ h2⟩, h.desk.keep (KTI.dk hb) (upd_ne nb.symm) ((nl _ _ a3).trans a3.symm), nl _ _ h.names, nl _ _ h.lines, nl _ _ h.sts, ⟨h.st.1, fun j d hj => ?_⟩⟩
  obtain ⟨q1, kv', q2, q3⟩ := h.st.2 j d hj
  exact ⟨q1, kv', (upd_ne (hd j d hj)).trans q2, q3⟩
def spLaw (K : PySem.W.Frag) : Sp := fun vs H Q _ => ∃ (a : Addr) (ns : List Int), vs = [.ref a] ∧ SqL K H a (ns.map V.int) ∧ ns.length ≤ 63 ∧ ∀ H', Q (.bl true) H'
abbrev lawN : List Str := ["_law_script", "_law_pool_here", "_law_desk", "_law_names_here", "_law_states", "_law_lines", "_law_turn", "_law_name", "_law_now", "_law_odd", "_law_k", "_law_line"]
theorem sc_law : FnScope lawN ["_law_script"] (defScope s_law) := ⟨rfl, rfl, rfl, by decide +kernel, rfl, by decide +kernel, by decide +kernel⟩
theorem ok_law (T : Txt w K mg) {fd : FuncData} (F0 : FunD K "law" "law" (defArgs s_law) (defBody s_law) (defScope s_law) [] [] (He.ga K "law") fd) : FnOk prg w K mg base CX0 12 (He.ga K "law") fd ["_law_script"] (spLaw K) := by
  obtain ⟨fdP, gP, kP, bP, GP⟩ := c_law_pool (base := base) T
  obtain ⟨fdD, MD, bD, GD⟩ := c_Desk_init (base := base) T
  obtain ⟨fdN, gN, kN, bN, GN⟩ := c_law_names (base := base) T
  obtain ⟨fdS, gS, kS, bS, GS⟩ := c_law_some (base := base) T
  obtain ⟨fdR, gR, kR, bR, GR⟩ := c_law_draw (base := base) T
  obtain ⟨fdW, gW, kW, bW, GW⟩ := c_law_desk_word (base := base) T
  obtain ⟨fdT, fT, mT, bT, GT⟩ := c_Desk_tell (base := base) T
  obtain ⟨fdU, fU, mU, bU, GU⟩ := c_Desk_undoable (base := base) T
  obtain ⟨fdA, gA, kA, bA, GA⟩ := c_law_same (base := base) T
  obtain ⟨fdF, gF, kF, bF, GF⟩ := c_law_few_parts (base := base) T
  obtain ⟨fdL, gL, kL, bL, GL⟩ := c_law_line_text (base := base) T
  obtain ⟨fdH, gH, kH, bH, GH⟩ := c_law_shows (base := base) T
  refine F0.ok sc_law (fun vs H Q E h => ?_) (fun cdv A outer s H vs Q E hr h => ?_)
  · obtain ⟨a, ns, rfl, _⟩ := h
    rfl
  · obtain ⟨a, ns, rfl, hS, hl, k⟩ := h
    have hu := hu_of hr
    have hu64 : _ + 64 < cLine := hr.units
    refine ⟨_, PSs.nox (pss_cons (ps_set (i := 1) sc_law.nd rfl (Or.inl rfl) (pe_call GP (hr.mono (by decide)) (by rfl) gP kP bP .nil pass0 (pa_cons (pv 0) pa_nil)))
      (pss_cons (ps_set (i := 2) sc_law.nd rfl (Or.inl rfl) (pe_make0 MD GD (hr.mono (by decide)) (by rfl) T.g_Desk bD .nil pass0))
      (pss_cons (ps_set (i := 3) sc_law.nd rfl (Or.inl rfl) (pe_call GN (hr.mono (by decide)) (by rfl) gN kN bN .nil pass0 (pa_cons (pv 1) pa_nil)))
      (pss_cons (ps_set (i := 4) sc_law.nd rfl (Or.inl rfl) (pe_lst (pa_cons pe_dnewK pa_nil)))
      (pss_cons (ps_set (i := 5) sc_law.nd rfl (Or.inl rfl) (pe_lst (pa_nil)))
      (pss_cons (ps_for PassesOwn.never rfl (pi_range1 (by rfl) T.f_range (pa_cons (pe_op op_add pe_int (pe_call GS (hr.mono (by decide)) (by rfl) gS kS bS .nil pass0 (pa_cons (pv 1) (pa_cons (pe_lst (pa_cons pe_int (pa_cons pe_int (pa_cons pe_int pa_nil)))) pa_nil)))) pa_nil)) (pg_name (i := 6) sc_law.nd rfl (Or.inl rfl))
        (pss_cons (ps_set (i := 7) sc_law.nd rfl (Or.inl rfl) (pe_call GS (hr.mono (by decide)) (by rfl) gS kS bS .nil pass0 (pa_cons (pv 1) (pa_cons (pv 3) pa_nil))))
      (pss_cons (ps_set (i := 8) sc_law.nd rfl (Or.inl rfl) (pe_dcopy (pe_ix ix_list (pv 4) (pe_un un_neg pe_int) (fun _ _ => rfl))))
      (pss_cons (ps_if (pt_cmpR op_eq (pe_call GR (hr.mono (by decide)) (by rfl) gR kR bR .nil pass0 (pa_cons (pv 1) (pa_cons pe_int pa_nil))) pe_int (nomark _)) (pss_cons (ps_set (i := 9) sc_law.nd rfl (Or.inl rfl) (pe_call GS (hr.mono (by decide)) (by rfl) gS kS bS .nil pass0 (pa_cons (pv 1) (pa_cons (pe_lst (pa_cons (pe_op op_add_str (pe_op op_add_str pe_str (pv 7)) pe_str) (pa_cons (pe_op op_add_str (pe_op op_add_str pe_str (pv 7)) pe_str) (pa_cons pe_str (pa_cons pe_str (pa_cons pe_str (pa_cons pe_str pa_nil))))))) pa_nil))))
      (pss_one (ps_if (pt_cmpR op_notIn_seq (pe_ix ix_tup (pe_call GW (hr.mono (by decide)) (by rfl) gW kW bW .nil pass0 (pa_cons (pv 2) (pa_cons (pv 9) pa_nil))) pe_int (fun _ _ => rfl)) (pe_lst (pa_cons pe_str (pa_cons pe_str pa_nil))) rfl) pss_never pss_nil))) (pss_one (ps_if (PW.pt (pw_and (pt_cmp (pc_din hu (pv 7) (pv 8))) (pw_and1 (pt_cmpR op_eq (pe_call GR (hr.mono (by decide)) (by rfl) gR kR bR .nil pass0 (pa_cons (pv 1) (pa_cons pe_int pa_nil))) pe_int (nomark _))))) (pss_cons (ps_expr (pe_dpop1 (pv 8) (pv 7) ⟨rfl, rfl, rfl, rfl⟩))
      (pss_cons (ps_expr (pe_bm PySem.F.plainAttrs_list PySem.F.slot_list_append PySem.F.type_list_append mt_append (pv 5) (pa_cons (pe_op op_add_str pe_str (pv 7)) pa_nil)))
      (pss_cons (ps_expr (pe_bm PySem.F.plainAttrs_list PySem.F.slot_list_append PySem.F.type_list_append mt_append (pv 4) (pa_cons (pv 8) pa_nil)))
      (pss_one (ps_if (pt_cmpR op_ne (pe_meth (pv 2) T.cl_Desk mT GT (hr.mono (by decide)) bT .nil passF (pa_cons (pe_ix ix_list (pv 5) (pe_un un_neg pe_int) (fun _ _ => rfl)) pa_nil)) pe_str (nomark _)) pss_never pss_nil))))) (pss_cons (ps_dput hu (pv 8) (pv 7) (pe_call GL (hr.mono (by decide)) (by rfl) gL kL bL .nil pass0 (pa_cons (pe_call GF (hr.mono (by decide)) (by rfl) gF kF bF .nil pass0 (pa_cons (pv 1) pa_nil)) pa_nil)) rfl)
      (pss_cons (ps_expr (pe_bm PySem.F.plainAttrs_list PySem.F.slot_list_append PySem.F.type_list_append mt_append (pv 5) (pa_cons (pe_op op_add_str (pe_op op_add_str (pe_op op_add_str pe_str (pv 7)) pe_str) (pe_dget hu (pv 8) (pv 7) (fun _ _ => rfl))) pa_nil)))
      (pss_cons (ps_expr (pe_bm PySem.F.plainAttrs_list PySem.F.slot_list_append PySem.F.type_list_append mt_append (pv 4) (pa_cons (pv 8) pa_nil)))
      (pss_one (ps_if (pt_cmpR op_ne (pe_meth (pv 2) T.cl_Desk mT GT (hr.mono (by decide)) bT .nil passF (pa_cons (pe_ix ix_list (pv 5) (pe_un un_neg pe_int) (fun _ _ => rfl)) pa_nil)) pe_str (nomark _)) pss_never pss_nil))))))))
      (pss_one (ps_if (pt_not (pt_val (pe_call GA (hr.mono (by decide)) (by rfl) gA kA bA .nil pass0 (pa_cons (pe_meth0 (pv 2) T.cl_Desk mU GU (hr.mono (by decide)) bU .nil pass0) (pa_cons (pe_callB call_len (by rfl) T.f_len (by decide +kernel) (pa_cons (pv 5) pa_nil)) pa_nil))))) pss_never pss_nil))))))
      (pss_cons (ps_if (pt_not (pt_val (pe_call GH (hr.mono (by decide)) (by rfl) gH kH bH .nil pass0 (pa_cons (pv 2) (pa_cons (pe_ix ix_list (pv 4) (pe_un un_neg pe_int) (fun _ _ => rfl)) pa_nil))))) pss_never pss_nil)
      (pss_cons (ps_for PassesOwn.never rfl (pi_range3 (by rfl) T.f_range (pa_cons (pe_op op_sub (pe_callB call_len (by rfl) T.f_len (by decide +kernel) (pa_cons (pv 5) pa_nil)) pe_int) (pa_cons (pe_un un_neg pe_int) (pa_cons (pe_un un_neg pe_int) pa_nil)))) (pg_name (i := 10) sc_law.nd rfl (Or.inl rfl))
        (pss_cons (ps_if (PW.pt (pw_or (pt_cmpR op_ne (pe_meth (pv 2) T.cl_Desk mT GT (hr.mono (by decide)) bT .nil passF (pa_cons pe_str pa_nil)) pe_str (nomark _)) (pw_or1 (pt_not (pt_val (pe_call GA (hr.mono (by decide)) (by rfl) gA kA bA .nil pass0 (pa_cons (pe_meth0 (pv 2) T.cl_Desk mU GU (hr.mono (by decide)) bU .nil pass0) (pa_cons (pv 10) pa_nil)))))))) pss_never pss_nil)
      (pss_one (ps_if (PW.pt (pw_and (pt_cmpR op_eq (pe_op op_mod (pe_callTy call_int1 (by rfl) T.f_int (by decide +kernel) (pa_cons (pv 10) pa_nil)) pe_int) pe_int (nomark _)) (pw_and1 (pt_not (pt_val (pe_call GH (hr.mono (by decide)) (by rfl) gH kH bH .nil pass0 (pa_cons (pv 2) (pa_cons (pe_ix ix_list (pv 4) (pv 10) (fun _ _ => rfl)) pa_nil)))))))) pss_never pss_nil))))
      (pss_cons (ps_if (PW.pt (pw_or (pt_cmpR (op_neD hu64) (pe_call GW (hr.mono (by decide)) (by rfl) gW kW bW .nil pass0 (pa_cons (pv 2) (pa_cons pe_str pa_nil))) (pe_tup (pa_cons pe_str (pa_cons pe_non pa_nil))) (nomark _)) (pw_or1 (pt_not (pt_val (pe_call GH (hr.mono (by decide)) (by rfl) gH kH bH .nil pass0 (pa_cons (pv 2) (pa_cons pe_dnewK pa_nil)))))))) pss_never pss_nil)
      (pss_cons (ps_for PassesOwn.never rfl (pi_list (pv 5)) (pg_name (i := 11) sc_law.nd rfl (Or.inl rfl))
        (pss_one (ps_if (pt_cmpR op_ne (pe_meth (pv 2) T.cl_Desk mT GT (hr.mono (by decide)) bT .nil passF (pa_cons (pv 11) pa_nil)) pe_str (nomark _)) pss_never pss_nil)))
      (pss_one (ps_ret (pe_call GH (hr.mono (by decide)) (by rfl) gH kH bH .nil pass0 (pa_cons (pv 2) (pa_cons (pe_ix ix_list (pv 4) (pe_un un_neg pe_int) (fun _ _ => rfl)) pa_nil))))))))))))))), ?_⟩
    refine ⟨_, rfl, a, ns, rfl, hS, hl, fun H1 p c s1 hp0 hc0 hP1 => ?_⟩
    intro x dx nx ndx nex
    refine ⟨x, dx, rfl, upd_same, fun H2 dk dp k2 hdk hdp hD2 => ⟨rfl, ?_⟩⟩
    have s2 : Same H1 H2 := fun b o e => by
      have nb := ne_of_none e nx
      refine k2 _ _ nb ?_
      rw [upd_ne nb, upd_ne (ne_of_none e ndx)]
      exact e
    have fr : ∀ b, (upd (upd H1 dx (.own x)) x (.ins (He.ga K "Desk") dx [])) b = none → H1 b = none := fun b hb => by
      by_cases h1 : b = x
      · rw [h1, upd_same] at hb
        cases hb
      · rw [upd_ne h1] at hb
        by_cases h2 : b = dx
        · rw [h2, upd_same] at hb
          cases hb
        · rw [upd_ne h2] at hb
          exact hb
    obtain ⟨ndp1, ndp2⟩ := hP1.nep (fr _ hdp)
    have hP2 := hP1.same s2
    refine ⟨_, rfl, p, c, rfl, hP2, fun H3 nl N o3 hP3 hnl nl1 nl2 hN h0 h12 hNm => ?_⟩
    have hN20 : N.length ≤ 20 := by omega
    have D3 : DeskAt K H3 x dk dp N (fun _ => none) [] := by
      obtain ⟨dx', kvs, g, xs, a1, a2, a3, a4, a5, a6⟩ := hD2 N
      obtain ⟨z1, z2, z3, z4, z5⟩ := hP2
      exact (hD2 N).keep (KTI.off2 ⟨z1, z2, z3, z4, z5⟩ o3) ((o3 _ _ (ne_of a2 z4 (by intro z; cases z)) (ne_of a2 z5 (by intro z; cases z)) a2).trans a2.symm) ((o3 _ _ ndp1 ndp2 a3).trans a3.symm)
    obtain ⟨_, _, _, xs3, _, c2, c3, _, _, _⟩ := id D3
    have nldp : nl ≠ dp := by
      obtain ⟨_, _, _, _, _, _, b3, _⟩ := hD2 N
      exact fun e => by rw [e, b3] at hnl; cases hnl
    intro d0 hd0
    refine ⟨by show 1 ≤ sizeLine; decide, fun sl hsl => ?_⟩
    have s4 : Same H3 (upd H3 d0 (.dK [])) := Same.new (Same.refl _) hd0
    have e4 : (upd H3 d0 (.dK [])) d0 = some (.dK []) := upd_same
    have nd0 : d0 ≠ dk := (ne_of_none c2 hd0).symm
    have hP4 := hP3.same s4
    have D4 := D3.same s4
    have hN4 := s4 _ _ hN
    have c34 := s4 _ _ c3
    generalize (upd H3 d0 (.dK [])) = H4 at *
    refine ⟨Nat.zero_le _, fun ll hll => ?_⟩
    have s5 : Same H4 (upd H4 sl (.lst [.ref d0])) := Same.new (Same.refl _) hsl
    have e5 : (upd H4 sl (.lst [.ref d0])) sl = some (.lst ([d0].map V.ref)) := upd_same
    obtain ⟨sl1, sl2⟩ := hP4.nep hsl
    have sl3 : sl ≠ dp := (ne_of_none c34 hsl).symm
    have sl4 : sl ≠ nl := (ne_of_none hN4 hsl).symm
    have hP5 := hP4.same s5
    have D5 := D4.same s5
    have hN5 := s5 _ _ hN4
    have c35 := s5 _ _ c34
    have e45 := s5 _ _ e4
    generalize (upd H4 sl (.lst [.ref d0])) = H5 at *
    have s6 : Same H5 (upd H5 ll (.lst [])) := Same.new (Same.refl _) hll
    obtain ⟨ll1, ll2⟩ := hP5.nep hll
    have L6 : LI K N ⟨p, c, x, dk, dp, nl, sl, ll⟩ (upd H5 ll (.lst [])) [] 0 [d0] := by
      refine ⟨⟨ndp1, ndp2, nl1, nl2, nldp, sl1, sl2, sl3, sl4, ll1, ll2, (ne_of_none c35 hll).symm, (ne_of_none hN5 hll).symm, (ne_of_none e5 hll).symm⟩, hP5.same s6, D5.same s6, s6 _ _ hN5, upd_same, s6 _ _ e5, rfl, fun i d hi => ?_⟩
      cases i with
      | zero =>
        cases hi
        exact ⟨nd0, [], s6 _ _ e45, KD.nil⟩
      | succ j => cases hi
    generalize (upd H5 ll (.lst [])) = H6 at *
    refine ⟨_, rfl, by show 3 ≤ sizeLine; decide, fun tl0 htl => ?_⟩
    obtain ⟨nt1, nt2⟩ := L6.pool.nep htl
    have L7 := L6.same (Same.new (o := HO.lst [V.int 0, V.int 10, V.int 100]) (Same.refl _) htl)
    refine ⟨p, c, tl0, _, rfl, L7.pool, upd_same, nt1, nt2, by decide, by decide, fun H8 v hv o8 hP8 => ?_⟩
    have L8 := L7.poolStep o8 hP8
    obtain ⟨z, rfl, z0, z1⟩ : ∃ z, v = V.int z ∧ 0 ≤ z ∧ z ≤ 100 := by
      have : v = V.int 0 ∨ v = V.int 10 ∨ v = V.int 100 := by simpa using hv
      rcases this with rfl | rfl | rfl
      · exact ⟨0, rfl, by decide, by decide⟩
      · exact ⟨10, rfl, by decide, by decide⟩
      · exact ⟨100, rfl, by decide, by decide⟩
    refine ⟨_, _, rfl, rfl, 20 + z, rfl, by omega, by omega, ?_⟩
    have hn120 : (20 + z).toNat ≤ 120 := by omega
    refine for_it (walk_range (lo := 0) (n := (20 + z).toNat)) (fun i σ H' => ∃ (v6 v7 v8 v9 : Option V) (ops : List Op) (ds : List Addr), σ = [some (.ref a), some (.ref p), some (.ref x), some (.ref nl), some (.ref sl), some (.ref ll), v6, v7, v8, v9, none, none] ∧
        LI K N ⟨p, c, x, dk, dp, nl, sl, ll⟩ H' ops ops.length ds ∧ Ok N ops ∧ ops.length ≤ i)
      ⟨none, none, none, none, [], [d0], rfl, L8, Ok.nil, Nat.le_refl _⟩ (fun _ _ _ _ _ => True.intro) (fun i y σ H9 H10 hi h yy => ?_) (fun σ H' h => ?_)
    · obtain ⟨v6, v7, v8, v9, ops, ds, rfl, L, hok, hoi⟩ := h
      obtain ⟨rfl, rfl⟩ := yy
      -- name
      refine ⟨_, rfl, _, rfl, p, c, nl, N.map V.str, rfl, L.pool, L.names, nl1, nl2, by rw [List.length_map]; exact h0, by rw [List.length_map]; omega, fun Ha v hv oa hPa => ?_⟩
      obtain ⟨n, hn, rfl⟩ : ∃ n, n ∈ N ∧ v = V.str n := by
        obtain ⟨n, h1, h2⟩ := List.mem_map.mp hv
        exact ⟨n, h1, h2.symm⟩
      have hnm := hNm n hn
      have La := L.poolStep oa hPa
      -- now
      obtain ⟨ds', dl, rfl⟩ : ∃ ds' dl, ds = ds' ++ [dl] := by
        rcases list_end ds with e | e
        · have := La.st.1
          rw [e] at this
          cases this
        · exact e
      have hdl : (ds' ++ [dl])[ops.length]? = some dl := by
        have := La.st.1
        rw [List.length_append] at this
        have e : ds'.length = ops.length := by
          have : ds'.length + 1 = ops.length + 1 := this
          omega
        rw [List.getElem?_append_right (by omega), e, Nat.sub_self]
        rfl
      obtain ⟨ndl, kvs, hkv, hKD⟩ := La.st.2 _ _ hdl
      rw [List.take_length] at hKD
      refine ⟨_, rfl, 1, rfl, sl, _, _, V.ref dl, rfl, rfl, SqL.of La.sts, by rw [List.map_append]; exact atI_last _ _, dl, kvs, rfl, .of hkv, fun nw hnw => ?_⟩
      have sb : Same Ha (upd Ha nw (.dK kvs)) := Same.new (Same.refl _) hnw
      have Lb := La.same sb
      have enw : (upd Ha nw (.dK kvs)) nw = some (.dK kvs) := upd_same
      have nwdk : nw ≠ dk := by
        obtain ⟨_, _, _, _, _, q2, _⟩ := La.desk
        exact (ne_of_none q2 hnw).symm
      have nwds : ∀ (j : Nat) (d : Addr), (ds' ++ [dl])[j]? = some d → d ≠ nw := fun j d hj => by
        obtain ⟨_, _, q, _⟩ := La.st.2 j d hj
        exact ne_of_none q hnw
      generalize (upd Ha nw (.dK kvs)) = Hb at *
      refine ⟨_, rfl, p, c, 12, rfl, Lb.pool, by decide, by decide, fun Hc r r0 r1 oc hPc => ⟨rfl, _, rfl, ?_⟩⟩
      have Lc := Lb.poolStep oc hPc
      have enc : Hc nw = some (.dK kvs) := by
        obtain ⟨_, _, _, q1, q2⟩ := Lb.pool
        exact oc _ _ (ne_of enw q1 (by intro z; cases z)) (ne_of enw q2 (by intro z; cases z)) enw
      have hops : ∀ k, (hist (ops.take k)).length ≤ 1000 := fun k => by
        rw [hist_len, List.length_take]
        have := Nat.min_le_right k ops.length
        omega
      -- the turn's end: undoable
      have tail : ∀ (D : Ends) (σ7 : St) (H7 : Hp) (ops7 : List Op) (ds7 : List Addr), σ7[2]? = some (some (.ref x)) → σ7[5]? = some (some (.ref ll)) → LI K N ⟨p, c, x, dk, dp, nl, sl, ll⟩ H7 ops7 ops7.length ds7 → D.nx σ7 H7 →
          tIfS (tNot (tB (tCall spSame [] E0 (tCons (tMeth (He.ga K "Desk") "undoable" (spUndoable K) [] E0 (tVar 2) tNil) (tCons (tCB (rLen K) (tCons (tVar 5) tNil)) tNil))))) tNever tNext D σ7 H7 := fun D σ7 H7 ops7 ds7 e2 e5 L7 hD => by
        obtain ⟨dx7, kv7, g7, xs7, q1, q2, q3, q4, q5, q6⟩ := id L7.desk
        refine ⟨_, e2, x, dx7, _, rfl, q1, deskF_no _ _ (by decide +kernel) (by decide +kernel), x, dk, dp, N, _, _, rfl, L7.desk, ?_⟩
        refine ⟨_, e5, _, ops7.length, rfl, .inl ⟨_, SqL.of L7.lines, by rw [List.length_map, List.length_map]⟩, _, _, rfl, ?_⟩
        refine ⟨_, rfl, ?_⟩
        refine ite_f ?_ hD
        rw [List.take_length, hist_len, decide_eq_true rfl]
        rfl
      have l8 : ("program " : Str).length = 8 := by decide +kernel
      have l5 : ("drop " : Str).length = 5 := by decide +kernel
      have l2 : (" x" : Str).length = 2 := by decide +kernel
      have l1 : ("0" : Str).length = 1 := by decide +kernel
      have l11 : (" " : Str).length = 1 := by decide +kernel
      have hn8 := hnm.hi
      have big : 1000 ≤ sizeLine := by decide
      refine ite_b (fun _ => ?_) (fun _ => ?_)
      · -- an odd line
        refine ⟨_, rfl, _, rfl, _, _, rfl, rfl, by rw [l8]; omega, _, _, rfl, rfl, by rw [len_app, l8, l2]; omega, _, rfl, _, _, rfl, rfl, by rw [l5]; omega, _, _, rfl, rfl, by rw [len_app, l5, l1]; omega, by show 6 ≤ sizeLine; decide, fun ol hol => ?_⟩
        obtain ⟨no1, no2⟩ := Lc.pool.nep hol
        have Ld := Lc.same (Same.new (o := HO.lst [V.str (("program " : Str) ++ n ++ (" x" : Str)), V.str (("drop " : Str) ++ n ++ ("0" : Str)), V.str "names ", V.str "", V.str "undo 1", V.str "show Abc"]) (Same.refl _) hol)
        refine ⟨p, c, ol, _, rfl, Ld.pool, upd_same, no1, no2, by show 0 < 6; decide, by show 6 ≤ 1000; decide, fun He v hv oe hPe => ?_⟩
        have Le := Ld.poolStep oe hPe
        obtain ⟨z, rfl, hz⟩ : ∃ z, v = V.str z ∧ (Says z none ∨ z = lineProg n "x") := by
          have : v = V.str (("program " : Str) ++ n ++ (" x" : Str)) ∨ v = V.str (("drop " : Str) ++ n ++ ("0" : Str)) ∨ v = V.str "names " ∨ v = V.str "" ∨ v = V.str "undo 1" ∨ v = V.str "show Abc" := by simpa using hv
          rcases this with rfl | rfl | rfl | rfl | rfl | rfl
          · exact ⟨_, rfl, .inr (prog_x n)⟩
          · exact ⟨_, rfl, .inl (says_drop0 hnm)⟩
          · exact ⟨_, rfl, .inl says_names_⟩
          · exact ⟨_, rfl, .inl says_empty⟩
          · exact ⟨_, rfl, .inl says_undo1⟩
          · exact ⟨_, rfl, .inl says_Abc⟩
        refine ⟨_, rfl, _, rfl, x, dk, dp, N, _, _, z, rfl, Le.desk, hN20, hNm, hops _, ?_⟩
        rcases hz with hz | rfl
        · refine .inl ⟨hz, fun Hf t sf ht => ?_⟩
          refine ⟨t, _, _, V.str "form", rfl, rfl, SqT.of ht, atI_nat (j := 0) rfl, by show 2 ≤ sizeLine; decide, fun q hq => ?_⟩
          have Lf := (Le.same sf).same (Same.new (o := HO.lst [V.str "line", V.str "form"]) (Same.refl _) hq)
          refine ⟨q, _, rfl, .inl (SqL.of upd_same), rfl, rfl, _, rfl, ite_f (by decide +kernel) ?_⟩
          exact tail _ _ _ ops _ rfl rfl Lf ⟨_, _, _, _, ops, _, rfl, Lf, hok, by omega⟩
        · refine .inr (.inl ⟨n, rfl, hnm, fun Hf t sf ht => ?_⟩)
          refine ⟨t, _, _, V.str "line", rfl, rfl, SqT.of ht, atI_nat (j := 0) rfl, by show 2 ≤ sizeLine; decide, fun q hq => ?_⟩
          have Lf := (Le.same sf).same (Same.new (o := HO.lst [V.str "line", V.str "form"]) (Same.refl _) hq)
          refine ⟨q, _, rfl, .inl (SqL.of upd_same), rfl, rfl, _, rfl, ite_f (by decide +kernel) ?_⟩
          exact tail _ _ _ ops _ rfl rfl Lf ⟨_, _, _, _, ops, _, rfl, Lf, hok, by omega⟩
      · -- a drop, a program
        have hgn : valV kvs (Sum.inr n) = txt (F ops) n := hKD.at_ n
        have cond : ∀ (σ7 : St) (R : Bool → Hp → Prop), σ7[1]? = some (some (.ref p)) → σ7[7]? = some (some (.str n)) → σ7[8]? = some (some (.ref nw)) →
            (∀ b H5, LI K N ⟨p, c, x, dk, dp, nl, sl, ll⟩ H5 ops ops.length (ds' ++ [dl]) → H5 nw = some (.dK kvs) → (b = true → ∃ P, F ops n = some P) → R b H5) →
            tAnd (tB (tDIn (tVar 7) (tVar 8))) (tTest (tOp rEq (tCall spDraw [] E0 (tCons (tVar 1) (tCons (tC (.int 3)) tNil))) (tC (.int 0)))) σ7 Hc R := fun σ7 R e1 e7 e8 hR => by
          refine ⟨_, e7, _, e8, nw, _, rfl, DGet.k (k := Sum.inr n) enc, _, rfl, ?_⟩
          rw [hgn]
          cases hf : F ops n with
          | none =>
            refine ite_f (by unfold txt; rw [hf]; rfl) ?_
            exact hR _ _ Lc enc (fun h => by cases h)
          | some P =>
            refine ite_t (by unfold txt; rw [hf]; rfl) ?_
            refine ⟨_, e1, p, c, 3, rfl, Lc.pool, by decide, by decide, fun Hd r' r2 r3 od hPd => ⟨rfl, _, rfl, ?_⟩⟩
            refine hR _ _ (Lc.poolStep od hPd) ?_ fun _ => ⟨P, hf⟩
            obtain ⟨_, _, _, q1, q2⟩ := Lc.pool
            exact od _ _ (ne_of enc q1 (by intro z; cases z)) (ne_of enc q2 (by intro z; cases z)) enc
        refine cond _ _ rfl rfl rfl (fun b Hd Ld end_ hb => ?_)
        refine ite_b (fun hb1 => ?_) (fun _ => ?_)
        · -- drop
          obtain ⟨P, hf⟩ := hb hb1
          have hv1 : valV kvs (Sum.inr n) = some (V.str (barT P)) := by rw [hgn]; unfold txt; rw [hf]; rfl
          refine ⟨_, rfl, nw, rfl, .inl ⟨kvs, .of end_⟩, _, rfl, kvs, Sum.inr n, _, end_, rfl, hv1, ?_⟩
          have Le := Ld.other (o := HO.dK (dropK kvs (Sum.inr n))) end_ nwdk nwds
          have ene : (upd Hd nw (.dK (dropK kvs (Sum.inr n)))) nw = some (.dK (dropK kvs (Sum.inr n))) := upd_same
          generalize (upd Hd nw (.dK (dropK kvs (Sum.inr n)))) = He at *
          refine ⟨_, rfl, .inl ⟨rfl, _, SqL.of Le.lines⟩, _, rfl, _, _, rfl, rfl, by rw [l5]; omega, ll, _, _, rfl, rfl, Le.lines, by rw [List.length_map, List.length_map]; omega, ?_⟩
          have est : (upd He ll (.lst ((ops.map opLine).map V.str ++ [V.str (("drop " : Str) ++ n)]))) sl = some (.lst ((ds' ++ [dl]).map V.ref)) := (upd_ne Le.ad.ll5.symm).trans Le.sts
          refine ⟨_, rfl, .inl ⟨rfl, _, SqL.of est⟩, _, rfl, sl, _, _, rfl, rfl, est, by rw [List.length_map, Le.st.1]; omega, ?_⟩
          have hk' : KD (dropK kvs (Sum.inr n)) N (txt (F (ops ++ [(n, none)]))) := by
            rw [F_snoc, ← txt_drop]
            exact hKD.drop n
          have Lf := Le.noted (op := (n, none)) nwdk ene hk'
          have hok' : Ok N (ops ++ [(n, none)]) := hok.snoc ⟨hn, P, hf⟩
          have etk : (ops ++ [((n, none) : Op)]).take ops.length = ops := List.take_left
          have eL : ((ops ++ [((n, none) : Op)]).map opLine).map V.str = (ops.map opLine).map V.str ++ [V.str (lineDrop n)] := by rw [List.map_append, List.map_append]; rfl
          obtain ⟨dx7, kv7, g7, xs7, q1, q2, q3, q4, q5, q6⟩ := id Lf.desk
          refine ⟨_, rfl, x, dx7, _, rfl, q1, deskF_no _ _ (by decide +kernel) (by decide +kernel), _, rfl, 1, rfl, ll, _, _, V.str (lineDrop n), rfl, rfl, SqL.of Lf.lines, by rw [eL]; exact atI_last _ _, ?_⟩
          refine ⟨x, dk, dp, N, _, _, lineDrop n, rfl, Lf.desk, hN20, hNm, by rw [etk, hist_len]; omega, .inr (.inr (.inr (.inr (.inr (.inl ⟨n, P, rfl, hnm, hn, by rw [etk]; exact hf, fun Hg og dg => ?_⟩)))))⟩
          refine ⟨rfl, _, rfl, ite_f (by decide +kernel) ?_⟩
          have Lg : LI K N ⟨p, c, x, dk, dp, nl, sl, ll⟩ Hg (ops ++ [(n, none)]) (ops ++ [(n, none)]).length (ds' ++ [dl] ++ [nw]) := Lf.deskStep og (by
            rw [etk] at dg
            rw [List.take_length, F_snoc, hist_snoc]
            exact dg)
          exact tail _ _ _ _ _ rfl rfl Lg ⟨_, _, _, _, _, _, rfl, Lg, hok', by rw [List.length_append]; show ops.length + 1 ≤ i + 1; omega⟩
        · -- a program
          refine ⟨_, rfl, p, c, rfl, Ld.pool, fun He t P oe hPe tP hA => ⟨t, P, rfl, tP, hA, fun Hf sf => ?_⟩⟩
          have Lf := (Ld.poolStep oe hPe).same sf
          have enf : Hf nw = some (.dK kvs) := by
            obtain ⟨_, _, _, q1, q2⟩ := Ld.pool
            exact sf _ _ (oe _ _ (ne_of end_ q1 (by intro z; cases z)) (ne_of end_ q2 (by intro z; cases z)) end_)
          refine ⟨_, rfl, _, rfl, nw, _, rfl, DPut.k (k := Sum.inr n) enf (Nat.lt_of_le_of_lt (Nat.le_trans hKD.len hN20) (by decide)), ?_⟩
          have Lg := Lf.other (o := HO.dK (putK kvs (Sum.inr n) (.str (barT P)))) enf nwdk nwds
          have eng : (upd Hf nw (.dK (putK kvs (Sum.inr n) (.str (barT P))))) nw = some (.dK (putK kvs (Sum.inr n) (.str (barT P)))) := upd_same
          generalize (upd Hf nw (.dK (putK kvs (Sum.inr n) (.str (barT P))))) = Hg at *
          have hvg : valV (putK kvs (Sum.inr n) (.str (barT P))) (Sum.inr n) = some (.str (barT P)) := by rw [valV_put, if_pos rfl]
          have hb174 := bar_len tP
          refine ⟨_, rfl, .inl ⟨rfl, _, SqL.of Lg.lines⟩, _, rfl, _, _, rfl, rfl, by rw [l8]; omega, _, _, rfl, rfl, by rw [len_app, l8, l11]; omega, _, rfl, _, rfl, nw, V.str (barT P), rfl, ?_, _, _, rfl, rfl, by rw [len_app, len_app, l8, l11]; omega, ll, _, _, rfl, rfl, Lg.lines, by rw [List.length_map, List.length_map]; omega, ?_⟩
          · rw [← hvg]
            exact DGet.k (k := Sum.inr n) eng
          have est : (upd Hg ll (.lst ((ops.map opLine).map V.str ++ [V.str (("program " : Str) ++ n ++ (" " : Str) ++ barT P)]))) sl = some (.lst ((ds' ++ [dl]).map V.ref)) := (upd_ne Lg.ad.ll5.symm).trans Lg.sts
          refine ⟨_, rfl, .inl ⟨rfl, _, SqL.of est⟩, _, rfl, sl, _, _, rfl, rfl, est, by rw [List.length_map, Lg.st.1]; omega, ?_⟩
          have hk' : KD (putK kvs (Sum.inr n) (.str (barT P))) N (txt (F (ops ++ [(n, some P)]))) := by
            rw [F_snoc, ← txt_put]
            exact hKD.put hn _
          have Lh := Lg.noted (op := (n, some P)) nwdk eng hk'
          have hok' : Ok N (ops ++ [(n, some P)]) := hok.snoc ⟨hn, tP⟩
          have etk : (ops ++ [((n, some P) : Op)]).take ops.length = ops := List.take_left
          have eL : ((ops ++ [((n, some P) : Op)]).map opLine).map V.str = (ops.map opLine).map V.str ++ [V.str (lineProg n (barT P))] := by rw [List.map_append, List.map_append]; rfl
          obtain ⟨dx7, kv7, g7, xs7, q1, q2, q3, q4, q5, q6⟩ := id Lh.desk
          refine ⟨_, rfl, x, dx7, _, rfl, q1, deskF_no _ _ (by decide +kernel) (by decide +kernel), _, rfl, 1, rfl, ll, _, _, V.str (lineProg n (barT P)), rfl, rfl, SqL.of Lh.lines, by rw [eL]; exact atI_last _ _, ?_⟩
          refine ⟨x, dk, dp, N, _, _, lineProg n (barT P), rfl, Lh.desk, hN20, hNm, by rw [etk, hist_len]; omega, .inr (.inr (.inr (.inl ⟨n, P, rfl, hnm, hn, tP, fun Hi oi di => ?_⟩)))⟩
          refine ⟨rfl, _, rfl, ite_f (by decide +kernel) ?_⟩
          have Li : LI K N ⟨p, c, x, dk, dp, nl, sl, ll⟩ Hi (ops ++ [(n, some P)]) (ops ++ [(n, some P)]).length (ds' ++ [dl] ++ [nw]) := Lh.deskStep oi (by
            rw [etk] at di
            rw [List.take_length, F_snoc, hist_snoc]
            exact di)
          exact tail _ _ _ _ _ rfl rfl Li ⟨_, _, _, _, _, _, rfl, Li, hok', by rw [List.length_append]; show ops.length + 1 ≤ i + 1; omega⟩
    · obtain ⟨v6, v7, v8, v9, ops, ds, rfl, L, hok, hoi⟩ := h
      have hops : ∀ k, (hist (ops.take k)).length ≤ 1000 := fun k => by
        rw [hist_len, List.length_take]
        have := Nat.min_le_right k ops.length
        omega
      obtain ⟨ds', dl, rfl⟩ : ∃ ds' dl, ds = ds' ++ [dl] := by
        rcases list_end ds with e | e
        · have := L.st.1
          rw [e] at this
          cases this
        · exact e
      have hdl : (ds' ++ [dl])[ops.length]? = some dl := by
        have := L.st.1
        rw [List.length_append] at this
        have e : ds'.length = ops.length := by
          have : ds'.length + 1 = ops.length + 1 := this
          omega
        rw [List.getElem?_append_right (by omega), e, Nat.sub_self]
        rfl
      have lastI : atI ((ds' ++ [dl]).map V.ref) (-1) = some (V.ref dl) := by rw [List.map_append]; exact atI_last _ _
      obtain ⟨ndl, kvs, hkv, hKD⟩ := L.st.2 _ _ hdl
      refine ⟨_, rfl, _, rfl, 1, rfl, sl, _, _, V.ref dl, rfl, rfl, SqL.of L.sts, lastI, x, dk, dp, N, _, _, dl, kvs, rfl, L.desk, hN20, hNm, hops _, hkv, hKD, ndl, fun Ha sa => ⟨true, rfl, ite_f rfl ?_⟩⟩
      have La := L.same sa
      -- all undone
      have hRg : RgC ((ops.length : Int) - 1) (-1) (-1) ops.length := by
        have := RgC.neg (i := (ops.length : Int) - 1) (j := -1) (by omega) (by omega) (by decide) (by decide)
        rw [show ((ops.length : Int) - 1 - -1).toNat = ops.length by omega] at this
        exact this
      refine ⟨_, rfl, _, ops.length, rfl, .inl ⟨_, SqL.of La.lines, by rw [List.length_map, List.length_map]⟩, _, _, rfl, rfl, 1, rfl, 1, rfl, (ops.length : Int) - 1, -1, -1, ops.length, rfl, hRg, ?_⟩
      refine for_it (walk_rangeC (lo := (ops.length : Int) - 1) (c := -1) (n := ops.length)) (fun i σ H' => ∃ (v10 : Option V), σ = [some (.ref a), some (.ref p), some (.ref x), some (.ref nl), some (.ref sl), some (.ref ll), v6, v7, v8, v9, v10, none] ∧
          LI K N ⟨p, c, x, dk, dp, nl, sl, ll⟩ H' ops (ops.length - i) (ds' ++ [dl])) ⟨none, rfl, La⟩ (fun _ _ _ _ _ => True.intro) (fun i y σ H9 H10 hi h yy => ?_) (fun σ Hb h => ?_)
      · obtain ⟨v10, rfl, Li⟩ := h
        obtain ⟨rfl, rfl⟩ := yy
        obtain ⟨m, hm⟩ : ∃ m, ops.length - i = m + 1 := ⟨ops.length - i - 1, by omega⟩
        have hidx : (ops.length : Int) - 1 + (i : Nat) * -1 = (m : Int) := by omega
        rw [hm] at Li
        obtain ⟨⟨n, o⟩, hop⟩ : ∃ op, ops[m]? = some op := ⟨ops[m]'(by omega), by simp [show m < ops.length by omega]⟩
        have etk := take_snoc hop
        obtain ⟨hn, _⟩ := hok m (n, o) hop
        obtain ⟨dx7, kv7, g7, xs7, q1, q2, q3, q4, q5, q6⟩ := id Li.desk
        refine ⟨_, rfl, x, dx7, _, rfl, q1, deskF_no _ _ (by decide +kernel) (by decide +kernel), x, dk, dp, N, _, _, "undo", rfl, Li.desk, hN20, hNm, hops _, .inr (.inr (.inl ⟨rfl, fun e => ?_, fun hist' n' o' e => ?_⟩))⟩
        · have := congrArg List.length e
          rw [hist_len, List.length_take] at this
          have : min (m + 1) ops.length = 0 := this
          omega
        rw [etk, hist_snoc] at e
        obtain ⟨e1, e2⟩ := List.append_inj' e rfl
        cases e2
        refine ⟨hn, fun Hc oc dc => ?_⟩
        have Lc : LI K N ⟨p, c, x, dk, dp, nl, sl, ll⟩ Hc ops m (ds' ++ [dl]) := Li.deskStep oc (by
          rw [etk, F_snoc, fset_back, ← e1] at dc
          exact dc)
        refine ⟨rfl, _, rfl, ite_f (by decide +kernel) ?_⟩
        obtain ⟨dx8, kv8, g8, xs8, w1, w2, w3, w4, w5, w6⟩ := id Lc.desk
        refine ⟨_, rfl, x, dx8, _, rfl, w1, deskF_no _ _ (by decide +kernel) (by decide +kernel), x, dk, dp, N, _, _, rfl, Lc.desk, _, rfl, _, _, rfl, _, rfl, ite_f ?_ ?_⟩
        · rw [hist_len, List.length_take, Nat.min_eq_left (by omega), hidx, decide_eq_true rfl]
          rfl
        have fin : ∀ Hd, Same Hc Hd → LI K N ⟨p, c, x, dk, dp, nl, sl, ll⟩ Hd ops (ops.length - (i + 1)) (ds' ++ [dl]) := fun Hd sd => by
          rw [show ops.length - (i + 1) = m by omega]
          exact Lc.same sd
        refine ⟨_, rfl, .inl ⟨_, rfl, _, _, rfl, rfl, (by show (0 : Int) < 7; decide), rfl, _, rfl, ite_b (fun _ => ?_) (fun _ => ?_)⟩⟩
        · obtain ⟨dm, hdm⟩ : ∃ dm, (ds' ++ [dl])[m]? = some dm := ⟨(ds' ++ [dl])[m]'(by have : (ds' ++ [dl]).length = ops.length + 1 := Lc.st.1; omega), List.getElem?_eq_getElem _⟩
          obtain ⟨ndm, kvm, hkm, hKm⟩ := Lc.st.2 _ _ hdm
          refine ⟨_, rfl, _, rfl, _, rfl, sl, _, _, V.ref dm, rfl, rfl, SqL.of Lc.sts, ?_, x, dk, dp, N, _, _, dm, kvm, rfl, Lc.desk, hN20, hNm, hops _, hkm, hKm, ndm, fun Hd sd => ⟨true, rfl, ite_f rfl ⟨_, rfl, fin _ sd⟩⟩⟩
          rw [hidx]
          exact atI_nat (by rw [List.getElem?_map, hdm]; rfl)
        · exact ite_f rfl ⟨_, rfl, fin _ (Same.refl _)⟩
      · obtain ⟨v10, rfl, Lb⟩ := h
        rw [Nat.sub_self] at Lb
        -- nothing is left
        refine ⟨_, rfl, x, dk, dp, N, _, _, "undo", rfl, Lb.desk, hN20, hNm, hops _, .inr (.inr ⟨rfl, rfl, fun Hc t sc ht => ?_⟩)⟩
        refine ⟨by show 2 ≤ sizeLine; decide, fun q hq => ?_⟩
        have sq := Same.new (o := HO.tup [V.str "nothing", V.non]) (Same.refl Hc) hq
        have Lc := (Lb.same sc).same sq
        have htc := sq _ _ ht
        have eq_ : (upd Hc q (.tup [V.str "nothing", V.non])) q = some (.tup [V.str "nothing", V.non]) := upd_same
        generalize (upd Hc q (.tup [V.str "nothing", V.non])) = Hd at *
        refine ⟨.tuple [.str "nothing", .none], .tuple [.str "nothing", .none], .tup (SqT.of htc) (.cons (.str _) (.cons .non .nil)), .tup (SqT.of eq_) (.cons (.str _) (.cons .non .nil)), by decide +kernel, by decide +kernel, _, rfl, ite_f (by decide +kernel) ?_⟩
        refine ⟨_, rfl, fun de hde => ?_⟩
        have sde := Same.new (o := HO.dK []) (Same.refl Hd) hde
        have Ld := Lc.same sde
        have nde : de ≠ dk := by
          obtain ⟨_, _, _, _, _, q2, _⟩ := Lc.desk
          exact (ne_of_none q2 hde).symm
        refine ⟨x, dk, dp, N, _, _, de, [], rfl, Ld.desk, hN20, hNm, hops _, upd_same, KD.nil.congr (fun n => rfl), nde, fun He se => ⟨true, rfl, ite_f rfl ?_⟩⟩
        have Le := Ld.same se
        -- done again
        refine ⟨_, rfl, ll, rfl, ⟨_, SqL.of Le.lines⟩, ?_⟩
        refine for_it (walk_list (K := K) (a := ll) (xs := (ops.map opLine).map V.str)) (fun i σ H' => ∃ (v11 : Option V), σ = [some (.ref a), some (.ref p), some (.ref x), some (.ref nl), some (.ref sl), some (.ref ll), v6, v7, v8, v9, v10, v11] ∧
            LI K N ⟨p, c, x, dk, dp, nl, sl, ll⟩ H' ops i (ds' ++ [dl])) ⟨none, rfl, Le⟩ (fun i σ H' _ h => ?_) (fun i y σ H9 H10 hi h yy => ?_) (fun σ Hf h => ?_)
        · obtain ⟨_, _, L'⟩ := h
          exact SqL.of L'.lines
        · obtain ⟨v11, rfl, Li⟩ := h
          obtain ⟨rfl, e⟩ := yy
          obtain ⟨zl, hzl, rfl⟩ := str_at' e
          obtain ⟨⟨n, o⟩, hop, rfl⟩ : ∃ op, ops[i]? = some op ∧ zl = opLine op := by
            rw [List.getElem?_map] at hzl
            cases e : ops[i]? with
            | none => rw [e] at hzl; cases hzl
            | some op => rw [e] at hzl; exact ⟨op, rfl, (Option.some.inj hzl).symm⟩
          have etk := take_snoc hop
          obtain ⟨hn, hoo⟩ := hok i (n, o) hop
          have hnm := hNm n hn
          obtain ⟨dx7, kv7, g7, xs7, q1, q2, q3, q4, q5, q6⟩ := id Li.desk
          refine ⟨_, rfl, x, dx7, _, rfl, q1, deskF_no _ _ (by decide +kernel) (by decide +kernel), _, rfl, x, dk, dp, N, _, _, opLine (n, o), rfl, Li.desk, hN20, hNm, hops _, ?_⟩
          cases o with
          | some P =>
            refine .inr (.inr (.inr (.inl ⟨n, P, rfl, hnm, hn, hoo, fun Hg og dg => ?_⟩)))
            refine ⟨rfl, _, rfl, ite_f (by decide +kernel) ⟨_, rfl, Li.deskStep og ?_⟩⟩
            rw [etk, F_snoc, hist_snoc]
            exact dg
          | none =>
            obtain ⟨P, hf⟩ := hoo
            refine .inr (.inr (.inr (.inr (.inr (.inl ⟨n, P, rfl, hnm, hn, hf, fun Hg og dg => ?_⟩)))))
            refine ⟨rfl, _, rfl, ite_f (by decide +kernel) ⟨_, rfl, Li.deskStep og ?_⟩⟩
            rw [etk, F_snoc, hist_snoc]
            exact dg
        · obtain ⟨v11, rfl, Lf⟩ := h
          rw [List.length_map, List.length_map] at Lf
          obtain ⟨ndl', kvs', hkv', hKD'⟩ := Lf.st.2 _ _ hdl
          exact ⟨_, rfl, _, rfl, 1, rfl, sl, _, _, V.ref dl, rfl, rfl, SqL.of Lf.sts, lastI, x, dk, dp, N, _, _, dl, kvs', rfl, Lf.desk, hN20, hNm, hops _, hkv', hKD', ndl', fun Hg sg => k Hg⟩
theorem facts {w : World} {K : PySem.W.Frag} {h : Heap} {mg : Str → Option Value} {f : Addr} (X : K.In h) (G : h.Ns mainGlobals mg) (hfa : mg ("law" : Str) = some (.ref f)) (c : SaysM prg fa fn ts ers tv w K) :
    ∃ fd : FuncData, (∀ (s : Shared) (v : Value), BindsTo s fd ⟨[v], []⟩ [("_law_script", v)]) ∧ ∀ base : Heap, K.In base → base.Ns mainGlobals mg → FnOk prg w K mg base CX0 12 f fd ["_law_script"] (spLaw K) := by
  have T := txt_of X G c
  obtain ⟨fd, F0⟩ := T.d_law
  have e := hfa.symm.trans T.g_law
  cases e
  have b := FunD.bindsA (ps := ["_law_script"]) F0 fun _ _ _ _ _ _ us hl => match us, hl with | [_], _ => rfl
  exact ⟨fd, fun s v => b s [v] rfl, fun base _ _ => ok_law T F0⟩
end
end L2.Dk
set_option Elab.async false
set_option linter.all false
set_option maxRecDepth 100000
set_option maxHeartbeats 0
open PySem PySem.W PySem.Calls PyProof.Rows
theorem PySem.Challenge.cw_turnsneeded_k23_whole_long_desks_undone_holds : PySem.Challenge.rw_turnsneeded_k23_whole_long_desks_undone.Holds := by
  w_on; o_law
  refine HandSHeadRun.head_any (r := OpenLaw.row PySem.Challenge.rw_turnsneeded_k23_whole_long_desks_undone) (q := view (OpenLaw.row PySem.Challenge.rw_turnsneeded_k23_whole_long_desks_undone).prog [140]) (H := L2.Dk.hk) (ob := L2.Dk.ob) (M := 20000) (loose := L2.Dk.names) (d := HandSHeadRun.topDef (OpenLaw.row PySem.Challenge.rw_turnsneeded_k23_whole_long_desks_undone).prog 140) (kwd := []) L2.Dk.ob_eq
    (by kernel_rfl) (fun s => by kernel_rfl) L2.Dk.run (by kernel_rfl) (by kernel_rfl) (by kernel_rfl) (by rfl) (by first | assumption | decide +kernel) (by decide +kernel) ⟨rfl, rfl, rfl, rfl, rfl, by decide +kernel⟩ ?hw ?hc
  case hw => w_witness2
  case hc =>
    refine L2.walk_ofE (l := PySem.Challenge.rw_turnsneeded_k23_whole_long_desks_undone) (n := 63) (k := 12) (x := "_law_script") (CX := L2.CX0) rfl (by decide) (by kernel_rfl) ⟨rfl, by decide, by decide⟩ ?F (fun _ _ _ _ z => z)
    intro w mg fa h Y G hmg0
    obtain ⟨K, KX, c⟩ := Y
    have hmg : mg ("law" : PySem.Str) = some (.ref fa) := by
      have e : (HandSHeadRun.topDef (OpenLaw.row PySem.Challenge.rw_turnsneeded_k23_whole_long_desks_undone).prog 140).name = ("law" : PySem.Str) := by kernel_rfl
      rw [← e]
      exact hmg0
    obtain ⟨fd, hb, hF⟩ := L2.Dk.facts (w := w) KX G hmg c
    exact ⟨K, fd, L2.Dk.spLaw K, KX, hb, fun H a ns hl _ hS => ⟨a, ns, rfl, hS, hl, fun _ => rfl⟩, hF⟩
#print axioms PySem.Challenge.cw_turnsneeded_k23_whole_long_desks_undone_holds
