import PyProof.Rows.All
import Wide.All
import OpenK.AllK
import Wide.FinOn
import PyProof.EqAt
import PyProof.EqKinds
import PyProof.TupleCall
import HandS.ForExc
import HandS.ExcField
import HandS.Lambda
import HandS.EndTab
import KE.KExcSuper
import HandS.Deep
import HandS.TupAny
import HandS.IsInst
import HandS.Style
import HandS.Flow
import HandS.WordsExc
import HandS.TupMul
import HandS.Wide
import HandS.Conv
import HandS.SortInts
import HandS.Text
import PyProof.P3In
import HandS.Star
import KE.GoesMore
import HandS.Zip
import HandS.ExcValue
import HandS.ExcOwn
import HandS.Dict
import HandS.Small
import HandS.Iter
import KE.DatumOrd
import KE.KParD
import PyProof.DictUpdate
import HandS.MakeKwOnly
import KE.KStar
import HandS.More
import HandS.ListItems
import HandS.FStr
import HandS.RaiseMore
import HandS.OwnEq
import KE.KExcIs
import HandS.Rev
import PySem.Challenge.RW_streetslit_k11_plans_made_and_refused
set_option Elab.async false
set_option linter.all false
set_option maxRecDepth 100000
set_option maxHeartbeats 2000000
/-! own exceptions: class X(L): def __init__(self, f): super().__init__(f); self.f = f -/
namespace BX
open PySem PySem.W PySem.Calls PyProof.Rows PySem.HandSPX
/-- the body of such an __init__ -/
def iB (fl : Str) (a b c d e f g h i j : Pos) : List Stmt :=
  [.Expr (.Call (.Attribute (.Call (.Name "super" a) [] [] b) "__init__" c) [.Name fl d] [] e) f,
   .Assign [.Attribute (.Name "self" g) fl h] (.Name fl i) j]
def iA (fl : Str) (p1 p2 : Pos) : Arguments := { posonlyargs := [], args := [{ arg := "self", annotation := none, pos := p1 }, { arg := fl, annotation := none, pos := p2 }], vararg := none, kwonlyargs := [], kw_defaults := [], kwarg := none, defaults := [] }
def iS (fl : Str) : Scope := { kind := .function, names := [(PySem.Str.ofString "self", .local), (fl, .local), (PySem.Str.ofString "__class__", .free), (PySem.Str.ofString "super", .globalImplicit)], isGenerator := false, isCoroutine := false, more := [] }
/-- a field's name that is no other name of the scope -/
structure FlOk (fl : Str) : Prop where
  n1 : ¬ fl = ("self" : Str)
  n2 : ¬ fl = ("__class__" : Str)
  n3 : ¬ fl = ("super" : Str)
  n4 : (fl == ("__debug__" : Str)) = false
  bd : ∀ (qual : Str) (p1 p2 : Pos) (body : List Stmt) (doc pm cdv ct u v : Value) (an : Option Addr) (cc : Addr), bindArgs (ksFn "__init__" qual (iA fl p1 p2) body (iS fl) .none .none doc pm an cdv ct cc) ⟨[u, v], []⟩ = pure [(("self" : Str), u), (fl, v)]
theorem flName : FlOk "name" := ⟨by decide +kernel, by decide +kernel, by decide +kernel, by decide +kernel, fun _ _ _ _ _ _ _ _ _ _ _ _ => rfl⟩
theorem flWord : FlOk "word" := ⟨by decide +kernel, by decide +kernel, by decide +kernel, by decide +kernel, fun _ _ _ _ _ _ _ _ _ _ _ _ => rfl⟩
theorem flPlace : FlOk "place" := ⟨by decide +kernel, by decide +kernel, by decide +kernel, by decide +kernel, fun _ _ _ _ _ _ _ _ _ _ _ _ => rfl⟩
/-- what the written part says of the class nm at C, its __init__ at fI, the cell cc of its __class__ -/
structure ExTxt (prog : Program) (K : Frag) (mg : Str → Option Value) (nm fl : Str) (C fI : Addr) : Prop where
  fo : FlOk fl
  gC : mg nm = some (.ref C)
  sup : nsIn K mainGlobals "super" = some none
  any : nsIn K cStatics "thirdparty.any" = some none
  top : (prog.main.scope.names.lookup ("super" : Str)).isSome = false
  cls : ∃ nm q N bs bm sn sub ab col dd k0 k1 k2 k3 k5, K.lookup C = some (excClassObj nm q C N bs bm true sn sub ab col dd k0 k1 k2 k3 k5 "ValueError.__new__") ∧ refsVE bm = true
  sa : findIn K (.ref C) "__setattr__" = some (some (.builtin "object.__setattr__"))
  xf : L2.XfC K C
  noN : findIn K (.ref C) fl = some none
  iC : findIn K (.ref C) "__init__" = some (some (.ref fI))
  tC : typeIn K (.ref fI) = some (.type "function")
  kC : keepIn K (.ref C) = true
  tyC : typeIn K (.ref C) = some (.type "type")
  sup2 : ks_superIn K C C "__init__" = some (some (.builtin "ValueError.__init__"))
  sVE : subIn K (.ref C) (.type "ValueError") = some true
  sCC : mroIn K C (.ref C) = some true
  fn : ∃ (oc ccl ccc ct doc pm : Value) (od cdd ccd an : Option Addr) (osl ccs ccv : Array (Option Value)) (vs : Array Value) (file : Str) (tf : Tok) (qual : Str) (p1 p2 a b c d e f g h i j : Pos) (cda cc : Addr),
    K.lookup fI = some ⟨oc, od, .func (ksFn "__init__" qual (iA fl p1 p2) (iB fl a b c d e f g h i j) (iS fl) .none .none doc pm an (.ref cda) ct cc), osl⟩ ∧ codeIn K (.ref cda) qual = true ∧
    K.lookup cda = some ⟨ccl, cdd, .fields vs, ccs⟩ ∧ vs[2]? = some (.str file tf) ∧ ((prog.main.file : Str) == file) = true ∧
    K.lookup cc = some ⟨ccc, ccd, .cell (some (.ref C)), ccv⟩ ∧ (c.endLine == e.line) = true
theorem one_size (v : Value) : [v].length ≤ sizeLine := by
  rw [sizeLine_eq]
  exact (by decide : 1 ≤ 16777216)
theorem ldC {M : Model} {s : Shared} {name : Str} {scope : Scope} {L a cc : Addr} {cd : Value} {m : Str → Option Value} {x : Str} {pos : Pos} {v : Value} {Q : Value → Shared → Prop} {A : Around} {E : Value → Shared → Prop} (hn : s.heap.Ns L m) (hv : m x = some v) (h : Q v s)
    (hk : scope.kind = .function) (hl : scope.names.lookup x = some .local) (hd : (x == ("__debug__" : Str)) = false) :
    wpAny M A (eval (.Name x pos) (ksEnv name scope L a cd cc)) Q E s := wpAny_Name (wpAny_loadName_local hk hl hn hv h) hd
structure InitEnd (h h' : Heap) (x C dx t1 : Addr) (fl : Str) (v : Value) : Prop where
  keep : ∀ b o, b ≠ x → h.get? b = some o → h'.get? b = some o
  obj : h'.get? x = some { cls := .ref C, dict := some dx, data := .fields #[.ref t1, .none, .none, .none, .bool false, .none] }
  dbig : h.objs.size ≤ dx
  dne : dx ≠ x
  ns : h'.Ns1 dx (fun y => if y = fl then some v else none)
structure OwnMade (h h' : Heap) (e C d : Addr) (fl : Str) (v : Value) : Prop where
  keep : ∀ b o, h.get? b = some o → h'.get? b = some o
  new : h.objs.size ≤ e
  obj : ∃ oe vs, h'.get? e = some oe ∧ oe.cls = .ref C ∧ oe.dict = some d ∧ oe.data = .fields vs ∧ vs[1]? = some .none
  dbig : h.objs.size ≤ d
  dne : d ≠ e
  ns : h'.Ns1 d (fun y => if y = fl then some v else none)
section
variable {prog : Program} {w : World} {A : Around} {E : Value → Shared → Prop} {R : Result → Shared → Prop} {s : Shared} {K : Frag} {mg mgG mb : Str → Option Value} {C fI : Addr} {nm fl : Str}
/-- what a state must bring: the module's names, the built-in ones -/
structure Gnd (K : Frag) (h : Heap) (mg : Str → Option Value) : Prop where
  g : h.Ns mainGlobals mg
  b : ∃ mb, h.Ns builtinsNs mb ∧ mb "super" = some (.type "super")
theorem Gnd.keeps {h h' : Heap} (G : Gnd K h mg) (k : ∀ b o, h.get? b = some o → h'.get? b = some o) : Gnd K h' mg := by
  obtain ⟨g, mb, h1, h2⟩ := G
  exact ⟨g.keeps k, mb, h1.keeps k, h2⟩
theorem call_mw {u e t0 : Addr} {h : Heap} {g : Array GenState} {d : Drawn} {t : Nat} {os : OsState} {rest : List Value} {Q : Value → Shared → Prop} {nm q : Str} {N : Addr} {bs bm : List Value} {hdct : Bool} {sn : List Str} {sub : List Value} {ab : Bool} {col : Option Bool} {dd : Option Addr} {k0 k1 k2 k3 k5 : Option Value}
    (hC : h.get? C = some (excClassObj nm q C N bs bm hdct sn sub ab col dd k0 k1 k2 k3 k5 "ValueError.__new__")) (he : h.get? e = some (excO C t0)) (hu : h.get? u = some (kxs_mw "ValueError.__init__" e)) (hrest : rest.length ≤ sizeLine)
    (hq : ∀ h' t1, (∀ b o, b ≠ e → h.get? b = some o → h'.get? b = some o) → h'.get? e = some (excO C t1) → Q .none ⟨h', g, d, t, os⟩) :
    wpAny (model prog w) A (call (.ref u) rest) Q E ⟨h, g, d, t, os⟩ := by
  refine wpAny_call (codeAny_of_tree ?_)
  show wpAny _ A.in1 (callAny (.ref u) ⟨rest, []⟩) _ _ _
  simp only [callAny]
  refine wpAny_bind (wpAny_load hu ?_)
  simp only [kxs_mw, show (Value.type "method-wrapper" == Value.type "method" || Value.type "method-wrapper" == Value.type "builtin_function_or_method" || Value.type "method-wrapper" == Value.type "method-wrapper") = true by decide, if_true]
  refine KFB.if_so (by decide) ?_
  refine wpAny_bind (check_bound_init F.excBase_ValueError.toExcCallFacts hC he rfl ?_)
  refine wpAny_bind (wpAny_pure (wpAny_pure ?_))
  refine ⟨plainId_quiet F.excBase_ValueError.init.plain _, codeAny_builtin F.excBase_ValueError.initEntry ?_⟩
  exact exc_init_tree (cls := .ref C) (t0 := t0) (dv := none) (c2 := .none) (c3 := .none) (b4 := .bool false) he hrest fun h' k e' _ => hq h' _ k e'
theorem he_of {env : Env} {o : Expr} {nm : Str} {c e d : Pos} {fl : Str} (hl : (c.endLine == e.line) = true) : eval (.Call (.Attribute o nm c) [.Name fl d] [] e) env = (do
      let ov ← attributeBase o nm env (eval o env)
      standAt c.atName
      let (f, first) ← holding [ov] (getMethod ov nm (do return (← importBound o env).getD true))
      callWith e f first (backTo e (starEach [.Name fl d] env)) []) := by
  rw [arm_eval_Call]
  have hf : methodCallForm ([Expr.Name fl d].length + ([] : List Keyword).length) (backTo e (starEach [.Name fl d] env)) (backToKw e (keywordEach [] env)) = true := by rfl
  have hm : methodCallPos true o env c e = pure e := by
    unfold methodCallPos
    rw [hl]
    rfl
  congr 1
  funext ov
  congr 1
  funext _
  unfold methodCall
  rw [hf, hm]
  rfl
theorem bx_init (T : ExTxt prog K mg nm fl C fI) {x t0 : Addr} {v : Value} (X : K.In s.heap) (G : Gnd K s.heap mg) (hlim : s.heap.NoLimit) (hx : s.heap.get? x = some (excO C t0)) (hnx : K.lookup x = none) (hroom : A.depth < recursionLimit)
    (hq : ∀ h' tk dx t1, InitEnd s.heap h' x C dx t1 fl v → R (.ok (.ret .none)) { s with heap := h', toks := tk }) :
    codeAny (model prog w) A (.call (.ref fI) ⟨[.ref x, v], []⟩) R s := by
  obtain ⟨oc, ccl, ccc, ct, doc, pm, od, cdd, ccd, an, osl, ccs, ccv, vs, file, tf, qual, p1, p2, a, b, c, d, e, f, g, h, i, j, cda, cc, ho, hcd, hcode, hvs, hfile, hcell, hl⟩ := T.fn
  obtain ⟨nm', q, N, bs, bm, sn, sub, ab, col, dd, k0, k1, k2, k3, k5, hC, hbm⟩ := T.cls
  have hcl : clsIn K C = some { name := nm', bases := bs, mro := .ref C :: bm, ns := N, qualname := q, hasDict := true, slotNames := sn, subclasses := sub, abstract := ab, collection := col, hasDel := false } := by unfold clsIn; rw [hC] <;> rfl
  have fo := T.fo
  have lself : (iS fl).names.lookup ("self" : Str) = some .local := by rfl
  have lfl : (iS fl).names.lookup fl = some .local := by
    have q1 : (fl == ("self" : Str)) = false := by simpa using fo.n1
    simp [iS, List.lookup, q1]
  have lcl : (iS fl).names.lookup ("__class__" : Str) = some .free := by
    have q1 : (("__class__" : Str) == fl) = false := by simpa using Ne.symm fo.n2
    have q2 : (("__class__" : Str) == PySem.Str.ofString "self") = false := by decide +kernel
    simp [iS, List.lookup, q1, q2]
  have lsu : (iS fl).names.lookup ("super" : Str) = some .globalImplicit := by
    have q1 : (("super" : Str) == fl) = false := by simpa using Ne.symm fo.n3
    have q2 : (("super" : Str) == PySem.Str.ofString "self") = false := by decide +kernel
    have q3 : (("super" : Str) == PySem.Str.ofString "__class__") = false := by decide +kernel
    simp [iS, List.lookup, q1, q2, q3]
  refine ks_codeAny_call_defAt (binds := [("self", .ref x), (fl, v)]) hroom (X _ _ ho) rfl hlim (codeRec_of X hcd) rfl (BindsTo.of_eq ?_) ?_ ?_ (fun h₁ hns k => ?_) rfl rfl rfl
  · exact fo.bd _ _ _ _ _ _ _ _ _ _ _ _
  · intro y hy
    simp only [iS, List.mem_cons, List.not_mem_nil, or_false] at hy
    rcases hy with h | h | h | h <;> subst h <;> exact fun q => nomatch q
  · intro y hy
    simp only [List.mem_cons, List.not_mem_nil, or_false] at hy
    rcases hy with h | h <;> subst h
    · exact lself
    · exact lfl
  · have X₁ : K.In h₁ := X.keeps k
    have G₁ := G.keeps k
    have hx₁ := k _ _ hx
    have xC : x ≠ C := fun z => by rw [z, hC] at hnx; cases hnx
    refine ks_wpAt_execs_cons (ks_wpAt_Expr_any (ks_wpAt_MethodCall ?_ (he_of hl)) rfl rfl)
    refine ks_wpAt_super_base lsu lcl (by decide) rfl (X₁ _ _ ho) rfl rfl rfl (X₁ _ _ hcode) rfl hvs hfile T.top ?_
    obtain ⟨mb, hb1, hb2⟩ := G₁.b
    refine ks_loadName_global rfl lsu (loadGlobal_builtin G₁.g (mg_none_of X₁ G₁.g T.sup) hb1 hb2 ⟨rfl, ?_⟩)
    refine wpAny_loadName_free rfl lcl rfl ⟨_, X₁ _ _ hcell, rfl⟩ ?_
    have hself : (fun y => [(("self" : Str), Value.ref x), (fl, v)].reverse.lookup y) ("self" : Str) = some (.ref x) := by
      have q1 : (("self" : Str) == fl) = false := by simpa using Ne.symm fo.n1
      simp [List.lookup, q1]
    have hfl : (fun y => [(("self" : Str), Value.ref x), (fl, v)].reverse.lookup y) fl = some v := by
      simp [List.lookup]
    refine wpAny_loadName_local rfl lself hns hself ?_
    refine ks_wpAny_isType_cls (X₁ _ _ hC) rfl ⟨rfl, ?_⟩
    refine ks_wpAny_call_super (X₁ _ _ hC) rfl hx₁ rfl (fun c e => nomatch e) (looks_mroIn X₁ T.sCC) (fun h₂ so k₂ => ?_)
    have X₂ : K.In h₂ := X₁.keeps k₂
    have hx₂ := k₂ _ _ hx₁
    have hns₂ := hns.keeps k₂
    have I₂ : InstAt h₂ x (excO C t0) C none := ⟨hx₂, rfl, rfl, trivial⟩
    have hI : ∀ M : Model, Looks (model prog w) h₂ (isInstance (.ref x) (.type "ValueError")) true := fun _ => I₂.type.andThen (looks_subIn X₂ T.sVE)
    have hal : alongIn K "__init__" (((.ref C :: bm).dropWhile (· != .ref C)).drop 1) = some (some (.builtin "ValueError.__init__")) := by
      have e := T.sup2
      unfold ks_superIn at e
      rw [hcl] at e
      exact e
    refine kxs_getMethod kxs_ValueError so (looks_opaque X₂ T.any) (l₀ := .ref C :: bm) (fun A Q E s k q => wpAny_bind ((looks_clsIn X₂ hcl) A _ E s k (wpAny_pure q))) rfl X₂ hal (hI (model prog w)) xC (by decide) ?_
    -- the wrapper is called with the value
    have kp : ∀ b o, h₂.get? b = some o → (h₂.push (kxs_mw "ValueError.__init__" x)).get? b = some o := fun b o e => Heap.get?_push_of_some _ e
    have hu : (h₂.push (kxs_mw "ValueError.__init__" x)).get? h₂.objs.size = some (kxs_mw "ValueError.__init__" x) := Heap.get?_push_size _ rfl
    refine kxs_callWith (i := "ValueError.__init__") (x := x) rfl (evalArgs_plain ?_)
    show wpAny _ _ (spliced ((false, eval (.Name fl d) _) :: backTo e (starEach [] _))) _ _ _
    refine Calls.spliced_cons (ldC (hns₂.keeps kp) hfl ?_ rfl lfl fo.n4)
    refine Calls.spliced_nil ⟨hu, ?_⟩
    refine call_mw (kp _ _ (X₂ _ _ hC)) (kp _ _ hx₂) hu (one_size v) (fun h₃ t1 k₃ hx₃ => ?_)
    -- self.f = f
    have xL : x ≠ s.heap.objs.size := Nat.ne_of_lt (Heap.lt_size hx)
    have X₃ : K.In h₃ := fun a o ea => k₃ a o (fun z => by rw [z, hnx] at ea; cases ea) (kp _ _ (X₂ _ _ ea))
    have hns₃ : h₃.Ns s.heap.objs.size (fun y => [(("self" : Str), Value.ref x), (fl, v)].reverse.lookup y) := by
      obtain ⟨oL, es, ep, hL, r⟩ := hns₂
      exact ⟨oL, es, ep, k₃ _ _ (Ne.symm xL) (kp _ _ hL), r⟩
    refine wpAt_of_wpAny ?_
    show wpAny _ _ (execs _ _) _ _ _
    refine wpAny_execs_cons (plainObj_wpAny_Assign_Attribute ?_)
    refine ldC hns₃ hfl (ldC hns₃ hself ?_ rfl lself (by decide)) rfl lfl fo.n4
    refine set_plain X₃ (ox := excO C t1) (od := none) ⟨hx₃, rfl, rfl, trivial⟩ T.sa ?_
    refine exc_osa X₃ hx₃ hcl (show refsVE (.ref C :: bm) = true from hbm) rfl T.noN (fun h₄ tk₄ dx k₄ dn dne hx₄ hn₄ => ?_)
    show wpAny _ _ (execs _ _) _ _ _
    have z : ∀ b o, b ≠ x → s.heap.get? b = some o → h₃.get? b = some o := fun b o hb e => k₃ b o hb (kp _ _ (k₂ _ _ (k b o e)))
    have dbig : s.heap.objs.size ≤ dx := by
      have y := hns₃.lt
      exact Nat.le_of_lt (Nat.lt_of_lt_of_le y dn)
    exact wpAny_execs_nil (hq h₄ tk₄ dx t1 ⟨fun b o hb e => k₄ b o hb (z b o hb e), hx₄, dbig, dne, hn₄⟩)
theorem bx_made (T : ExTxt prog K mg nm fl C fI) {v : Value} (X : K.In s.heap) (G : Gnd K s.heap mg) (hlim : s.heap.NoLimit) (hroom : A.depth + 1 < recursionLimit)
    (hq : ∀ h' tk e d, OwnMade s.heap h' e C d fl v → R (.ok (.ret (.ref e))) { s with heap := h', toks := tk }) :
    codeAny (model prog w) A (.call (.ref C) ⟨[v], []⟩) R s := by
  obtain ⟨nm', q, N, bs, bm, sn, sub, ab, col, dd, k0, k1, k2, k3, k5, hC, hbm⟩ := T.cls
  obtain ⟨hp, g, dr, tk, os⟩ := s
  have k : ∀ b o, hp.get? b = some o → ((hp.push (kdv_tup [v])).push (excO C hp.objs.size)).get? b = some o := fun b o e => Heap.get?_push_of_some _ (Heap.get?_push_of_some _ e)
  have hget : ((hp.push (kdv_tup [v])).push (excO C hp.objs.size)).get? (hp.objs.size + 1) = some (excO C hp.objs.size) := by heap_get
  have hnx : K.lookup (hp.objs.size + 1) = none := by
    cases e : K.lookup (hp.objs.size + 1) with
    | none => rfl
    | some o =>
      have z : hp.get? (hp.objs.size + 1) = some o := X _ _ e
      exact absurd (Nat.lt_of_succ_lt (Heap.lt_size z)) (Nat.lt_irrefl _)
  refine call_own F.excBase_ValueError (fun X => refsVE_contains X bm hbm) (X _ _ hC) (looks_findIn X T.iC) (fun self => bind_fn X self T.tC) (one_size v) ?_
  refine bx_init (s := ⟨(hp.push (kdv_tup [v])).push (excO C hp.objs.size), g, dr, tk, os⟩) T (X.keeps k) (G.keeps k) (hlim.keeps k) hget hnx ?_ fun h' tk' dx t1 ⟨k', hx, dn, dne, hns⟩ => ?_
  · show A.depth + 1 < recursionLimit
    exact hroom
  · have old : ∀ b o, hp.get? b = some o → h'.get? b = some o := fun b o e => k' b o (Nat.ne_of_lt (Nat.lt_succ_of_lt (Heap.lt_size e))) (k b o e)
    have z : hp.objs.size + 1 + 1 ≤ dx := by
      first
        | (simpa only [Heap.size_push] using dn)
        | exact dn
        | (have q := dn; rw [Heap.size_push, Heap.size_push] at q; exact q)
    exact ⟨rfl, hq h' tk' (hp.objs.size + 1) dx ⟨old, Nat.le_succ _, ⟨_, _, hx, rfl, rfl, rfl, rfl⟩, Nat.le_trans (Nat.le_trans (Nat.le_succ _) (Nat.le_succ _)) z, dne, hns⟩⟩
end
end BX
namespace BX
open PySem PySem.Spec PyProof.Rows L2
theorem relO_one {fl : Str} {v : V} {v' : Value} (r : RelV v v') (f : Str) : RelO (List.lookup f [(fl, v)]) (if f = fl then some v' else none) := by
  by_cases hw : f = fl
  · subst hw
    rw [if_pos rfl]
    have q : List.lookup f [(f, v)] = some v := by simp [List.lookup]
    rw [q]
    exact r
  · rw [if_neg hw]
    have qw : (f == fl) = false := by simpa using hw
    have q2 : List.lookup f [(fl, v)] = none := by simp [List.lookup, qw]
    rw [q2]
    trivial
section
variable {X : Cx} {C fI : Addr} {nm fl : Str}
def tMkX (C : Addr) (fl : Str) (ta : TA) : L2.St → Hp → XK → Prop := fun σ H Q => ta σ H fun vs H1 => ∃ v, vs = [v] ∧ ∀ d, H1 d = none → Q (.ref C) (some d) (upd H1 d (.xd [(fl, v)]))
theorem pmk_bx {a : Expr} {ta : TA} {p pos : Pos} {k : Nat} (T : ExTxt X.prog X.K X.mg nm fl C fI) (hr : Room k X.A) (ha : PA X [a] ta) (hg : Gl X nm) (hd : (nm == ("__debug__" : Str)) = false)
    (he : starEach (a :: []) X.env = (false, eval a X.env) :: starEach [] X.env := by rfl) (hpl : (backTo pos (starEach [] X.env)).any (·.1) = false := by rfl) :
    PMk X (.Call (.Name nm p) [a] [] pos) (tMkX C fl ta) := by
  intro pins s σ H Q I h
  refine wpAny_Call_Name_kw (ld_glob I hg T.gC ?_ hd)
  refine PySem.W.callWith_K (h₀ := X.base) I.ok.mod.kin T.kC (thn (ha.run pos pins s σ H _ I h) fun us s1 hh => ?_) he hpl
  obtain ⟨vs, H1, I1, r1, v, ev, q1⟩ := hh
  subst ev
  refine ⟨I1.kIn, ?_⟩
  cases r1 with
  | cons rv rn =>
    rename_i v' us'
    cases rn
    show wpAny _ _ (call (.ref C) [v']) _ _ _
    have hlim := I1.nolimit
    have G : Gnd X.K s1.heap X.mg := by
      obtain ⟨mb, h1, h2⟩ := I1.mod.blt
      exact ⟨I1.mod.glob.keeps I1.bk, mb, h1.keeps I1.bk, (h2 _ (by decide +kernel)).trans (by decide +kernel)⟩
    obtain ⟨hp, g, dr, tk, os⟩ := s1
    refine wpAny_call (bx_made T I1.kIn G hlim (by have := hr.dp; omega) fun h' tk' e d M => ?_)
    show MkP X pins σ Q (.ref e) ⟨h', g, dr, tk', os⟩
    obtain ⟨oe, fv, hoe, hc, hd, hdat, h1⟩ := M.obj
    have hns := M.ns
    obtain ⟨G', g1, g2⟩ := restrict h' fun b => decide (b ≠ e)
    have gk : ∀ b, b ≠ e → G'.get? b = h'.get? b := fun b hb => g1 b (decide_eq_true hb)
    have ge : G'.get? e = none := g2 e (by simp)
    have old : ∀ b o, hp.get? b = some o → G'.get? b = some o := fun b o q => (gk b (Nat.ne_of_lt (Nat.lt_of_lt_of_le (Heap.lt_size q) M.new))).trans (M.keep b o q)
    have ob : ObjOk X.prog X.w (upd H1 d (.xd [(fl, v)])) G' d (.xd [(fl, v)]) :=
      ⟨_, hns.at (fun o q => (gk d M.dne).trans q), fun f => relO_one rv f⟩
    have J : Inv X pins σ (upd H1 d (.xd [(fl, v)])) ⟨G', g, dr, tk', os⟩ := I1.laid (t' := tk') old M.dbig ob
    refine ⟨e, oe, fv, ⟨G', g, dr, tk', os⟩, _, .ref C, some d, rfl, J, fun b o q => ?_, ge, hoe, ⟨hc, hd⟩, hdat, h1, ?_, rfl, I1.bare, raises_own T.xf.exC T.tyC, q1 d (I1.hok.fresh M.dbig)⟩
    · by_cases hb : b = e
      · have q' : G'.get? b = some o := q
        rw [hb, ge] at q'
        cases q'
      · exact (gk b hb).symm.trans q
    · rw [upd_ne (Ne.symm M.dne)]
      exact I1.hok.fresh M.new
def tRaiseX (C : Addr) (fl : Str) (W : WX) (ta : TA) : TS := fun _ σ H => tMkX C fl ta σ H fun cls d H' => W cls d σ H'
theorem ps_raiseX {a : Expr} {ta : TA} {W : WX} {p pos pos2 : Pos} {k : Nat} (hc : X.calm = true) (T : ExTxt X.prog X.K X.mg nm fl C fI) (hr : Room k X.A) (tk : Takes X W) (ha : PA X [a] ta) (hg : Gl X nm := by rfl) (hd : (nm == ("__debug__" : Str)) = false := by decide)
    (he : starEach (a :: []) X.env = (false, eval a X.env) :: starEach [] X.env := by rfl) (hpl : (backTo pos (starEach [] X.env)).any (·.1) = false := by rfl) :
    PS X (.Raise (some (.Call (.Name nm p) [a] [] pos)) none pos2) (tRaiseX C fl W ta) := ps_raise hc tk (pmk_bx T hr ha hg hd he hpl)
end
end BX
namespace BX
open PySem PySem.Spec PyProof.Rows L2 LamX
theorem takes_len {X : Cx} {W : WX} (t : Takes X W) : Takes X (fun c d σ H => σ.length = X.N.length → W c d σ H) := fun u s' ⟨a, B, sI, pins, σ, H, cls, d, e, I, nb, up, sky, na, os, ag, w⟩ =>
  t u s' ⟨a, B, sI, pins, σ, H, cls, d, e, I, nb, up, sky, na, os, ag, w I.len⟩
/-- what «try: a() / except C as e: return e.fl / return ret» makes of a's reading -/
def TRef (K : PySem.W.Frag) (C : Addr) (fl ret : Str) : (XK → Hp → VK → Prop) → Hp → VK → Prop := fun tl H Q =>
  tl (fun cls d H' => cls = .ref C ∧ ∃ (dd : Addr) (fs : List (Str × V)) (v : V), d = some dd ∧ H' dd = some (.xd fs) ∧ fs.lookup fl = some v ∧ Q v H') H (fun _ H' => Q (.str ret) H')
theorem ref_gives {X : Cx} {x q ret : Str} {nm fl : Str} {C fI g : Addr} {sg : Scope} {cdg : Value} {j : Nat} {p1 p2 p3 p4 p5 p6 p7 p8 p9 p10 p11 : Pos} (T : ExTxt X.prog X.K X.mg nm fl C fI) (te : PySem.W.exmOne X.K (.ref C) (.ref C) = some true)
    (hge : sg.names.lookup nm = some .globalImplicit) (hde : (nm == ("__debug__" : Str)) = false) (hle : sg.names.lookup ("e" : Str) = some .local) :
    GivesTo X ["call", "e"] x sg g cdg [.Try [.Expr (.Call (.Name "call" p1) [] [] p2) p3] [.ExceptHandler (some (.Name nm p4)) (some "e") [.Return (some (.Attribute (.Name "e" p5) fl p6)) p7] p8] [] [] p9, .Return (some (.Constant (.str ret) j p10)) p11] "call" q (TRef X.K C fl ret) := by
  intro f c' s H Q tl act hc h
  have hgl : Gl (cxOf C8.CX0 X.prog X.w X.K X.mg X.base ["call", "e"] x sg g cdg X.A X.stack s H C8.E0).nox nm := hge
  refine ⟨_, pss_cons (ps_try_as (X := (cxOf C8.CX0 X.prog X.w X.K X.mg X.base ["call", "e"] x sg g cdg X.A X.stack s H C8.E0).nox) (i := 1) (c := .ref C)
      (tb := fun W D σ H => ∃ Ech : XK, (∀ cls d σ' H', Ech cls d H' → σ'.length = 2 → W cls d σ' H') ∧ σ[0]? = some (some (.ref f)) ∧ H c' = some (CodeO c' q) ∧ tl Ech H (fun _ H' => D.nx σ H'))
      (ts := fun a cls d => tRet (tXf a cls d C fl (tVar 1)))
      rfl rfl (show (["call", "e"] : List Str).Nodup by decide +kernel) rfl hle ⟨hgl, hde, .inl T.gC⟩ L2.takes0 (fun W pn xe tk _ => ?_) (fun a oe cls d pn hz hf => pss_one (ps_ret (pe_xf T.xf T.noN hz hf (pv 1 rfl (.inl hle)))))) (pss_one (ps_ret pe_str)), ?_⟩
  · refine ⟨fun pins s' σ H' D I h' => ?_⟩
    obtain ⟨Ech, hW, h1, h2, h3⟩ := h'
    have hp := act _ pn xe Ech p1 p2 (takes_len tk) hW
    exact (pss_one (ps_expr (pos := p3) hp)).run pins s' σ H' D I ⟨h1, h2, h3⟩
  · refine ⟨fun cls d H' => cls = .ref C ∧ ∃ (dd : Addr) (fs : List (Str × V)) (v : V), d = some dd ∧ H' dd = some (.xd fs) ∧ fs.lookup fl = some v ∧ Q v H', ?_, rfl, hc, h⟩
    rintro cls d σ' H' ⟨rfl, dd, fs, v, rfl, h1, h2, h3⟩ hlen
    refine ⟨true, te, fun _ a ha => ?_, fun z => Bool.noConfusion z⟩
    obtain ⟨x0, x1, rfl⟩ : ∃ x0 x1, σ' = [x0, x1] := by
      match σ', hlen with
      | [a, b], _ => exact ⟨a, b, rfl⟩
    exact ⟨.ref a, rfl, rfl, rfl, dd, fs, v, rfl, h1, h2, h3⟩
end BX

/-! the data layer: what expressions and statements do, told over plain data -/
namespace DL
open PySem PySem.Spec PyProof.Rows L2
abbrev D := PyData
def Ex (H H' : Hp) : Prop := ∀ a o, H a = some o → H' a = some o
theorem Ex.refl (H : Hp) : Ex H H := fun _ _ h => h
theorem Ex.trans {H H1 H2 : Hp} (a : Ex H H1) (b : Ex H1 H2) : Ex H H2 := fun x o h => b x o (a x o h)
theorem Ex.un {H H' : Hp} (e : Ex H H') {p : Addr} (h : H' p = none) : H p = none := by
  cases q : H p with
  | none => rfl
  | some o => rw [e p o q] at h; cases h
theorem Ex.new {H : Hp} {p : Addr} {o : HO} (h : H p = none) : Ex H (upd H p o) := fun a u e => by
  rw [upd_ne (ne_of_none e h)]; exact e
theorem Ex.rd {H H' : Hp} (e : Ex H H') {a : Addr} {u : HO} (h : Rd H a u) : Rd H' a u := by
  rcases h with h | ⟨o, h⟩
  · exact .inl (e a _ h)
  · exact .inr ⟨o, e a _ h⟩
theorem Ex.sqT {K : PySem.W.Frag} {H H' : Hp} {a : Addr} {xs : List V} (e : Ex H H') (h : SqT K H a xs) : SqT K H' a xs := by
  rcases h with h | h
  · exact .inl (e.rd h)
  · exact .inr h
theorem Ex.sqL {K : PySem.W.Frag} {H H' : Hp} {a : Addr} {xs : List V} (e : Ex H H') (h : SqL K H a xs) : SqL K H' a xs := by
  rcases h with h | h
  · exact .inl (e.rd h)
  · exact .inr h
def keyD : Key → D
  | .inl i => .int i
  | .inr x => .str x
/-- the script: a list that may only be read, told by a datum that nothing else bears -/
def scrD (ns : List Int) : D := .dict [(.none, .list (ns.map PyData.int))]
/-- a frozen dict: it may be walked -/
def frzD (ds : List (D × D)) : D := .dict [(.bool false, .dict ds)]
/-- an instance that stays as it is: its class, its attributes -/
def objD (C : Addr) (ds : List (D × D)) : D := .dict [(.bool true, .tuple [.int (C : Nat), .dict ds])]
/-! ### what a value is, in the frozen part F -/
mutual
inductive At (K : PySem.W.Frag) (F : Hp) : V → D → Prop
  | non : At K F .non .none
  | bl (b : Bool) : At K F (.bl b) (.bool b)
  | int (i : Int) : At K F (.int i) (.int i)
  | str (x : Str) : At K F (.str x) (.str x)
  | lst {a : Addr} {vs : List V} {ds : List D} : F a = some (.lst vs) → AtAll K F vs ds → At K F (.ref a) (.list ds)
  | tup {a : Addr} {vs : List V} {ds : List D} : SqT K F a vs → AtAll K F vs ds → At K F (.ref a) (.tuple ds)
  | dic {a : Addr} {kvs : List (Key × V)} {ds : List (D × D)} : F a = some (.dK kvs) → AtKV K F kvs ds → At K F (.ref a) (.dict ds)
  | scr {a : Addr} {ns : List Int} : SqL K F a (ns.map V.int) → At K F (.ref a) (scrD ns)
  | obj {a dx C : Addr} {fs : List (Str × V)} {ds : List (D × D)} : F a = some (.ins C dx fs) → F dx = some (.own a) → AtKV K F (fs.map fun x => (Sum.inr x.1, x.2)) ds → At K F (.ref a) (objD C ds)
  | zic {a : Addr} {o : Obj} {kvs : List (Key × V)} {ds : List (D × D)} : F a = some (.frz o (.dK kvs)) → AtKV K F kvs ds → At K F (.ref a) (frzD ds)
inductive AtAll (K : PySem.W.Frag) (F : Hp) : List V → List D → Prop
  | nil : AtAll K F [] []
  | cons {v : V} {vs : List V} {d : D} {ds : List D} : At K F v d → AtAll K F vs ds → AtAll K F (v :: vs) (d :: ds)
inductive AtKV (K : PySem.W.Frag) (F : Hp) : List (Key × V) → List (D × D) → Prop
  | nil : AtKV K F [] []
  | cons {k : Key} {v : V} {kvs : List (Key × V)} {d : D} {ds : List (D × D)} : At K F v d → AtKV K F kvs ds → AtKV K F ((k, v) :: kvs) ((keyD k, d) :: ds)
end
section
variable {K : PySem.W.Frag} {F F' : Hp}
mutual
theorem At.ex (e : Ex F F') : ∀ {v : V} {d : D}, At K F v d → At K F' v d
  | _, _, .non => .non
  | _, _, .bl b => .bl b
  | _, _, .int i => .int i
  | _, _, .str x => .str x
  | _, _, .lst h t => .lst (e _ _ h) (AtAll.ex e t)
  | _, _, .tup h t => .tup (e.sqT h) (AtAll.ex e t)
  | _, _, .dic h t => .dic (e _ _ h) (AtKV.ex e t)
  | _, _, .scr h => .scr (e.sqL h)
  | _, _, .obj h1 h2 t => .obj (e _ _ h1) (e _ _ h2) (AtKV.ex e t)
  | _, _, .zic h t => .zic (e _ _ h) (AtKV.ex e t)
theorem AtAll.ex (e : Ex F F') : ∀ {vs : List V} {ds : List D}, AtAll K F vs ds → AtAll K F' vs ds
  | _, _, .nil => .nil
  | _, _, .cons h t => .cons (At.ex e h) (AtAll.ex e t)
theorem AtKV.ex (e : Ex F F') : ∀ {vs : List (Key × V)} {ds : List (D × D)}, AtKV K F vs ds → AtKV K F' vs ds
  | _, _, .nil => .nil
  | _, _, .cons h t => .cons (At.ex e h) (AtKV.ex e t)
end
theorem AtAll.length : ∀ {vs : List V} {ds : List D}, AtAll K F vs ds → vs.length = ds.length
  | _, _, .nil => rfl
  | _, _, .cons _ t => by simp [AtAll.length t]
theorem AtAll.get : ∀ {vs : List V} {ds : List D} {i : Nat} {d : D}, AtAll K F vs ds → ds[i]? = some d → ∃ v, vs[i]? = some v ∧ At K F v d
  | _, _, _, _, .nil, e => by simp at e
  | _, _, 0, _, .cons h _, e => by simp at e; subst e; exact ⟨_, by simp, h⟩
  | _, _, i + 1, d, .cons _ t, e => by
    obtain ⟨v, h1, h2⟩ := AtAll.get (i := i) (d := d) t (by simpa using e)
    exact ⟨v, by simpa using h1, h2⟩
theorem AtAll.getV : ∀ {vs : List V} {ds : List D} {i : Nat} {v : V}, AtAll K F vs ds → vs[i]? = some v → ∃ d, ds[i]? = some d ∧ At K F v d
  | _, _, _, _, .nil, e => by simp at e
  | _, _, 0, _, .cons h _, e => by simp at e; subst e; exact ⟨_, by simp, h⟩
  | _, _, i + 1, d, .cons _ t, e => by
    obtain ⟨v, h1, h2⟩ := AtAll.getV (i := i) (v := d) t (by simpa using e)
    exact ⟨v, by simpa using h1, h2⟩
theorem AtAll.append : ∀ {vs ws : List V} {ds es : List D}, AtAll K F vs ds → AtAll K F ws es → AtAll K F (vs ++ ws) (ds ++ es)
  | _, _, _, _, .nil, s => s
  | _, _, _, _, .cons h t, s => .cons h (AtAll.append t s)
theorem AtAll.take : ∀ {vs : List V} {ds : List D} (n : Nat), AtAll K F vs ds → AtAll K F (vs.take n) (ds.take n)
  | _, _, 0, _ => .nil
  | _, _, _ + 1, .nil => .nil
  | _, _, n + 1, .cons h t => .cons h (AtAll.take n t)
theorem AtAll.drop : ∀ {vs : List V} {ds : List D} (n : Nat), AtAll K F vs ds → AtAll K F (vs.drop n) (ds.drop n)
  | _, _, 0, r => r
  | _, _, _ + 1, .nil => .nil
  | _, _, n + 1, .cons _ t => AtAll.drop n t
theorem AtAll.set {v : V} {d : D} (h : At K F v d) : ∀ {vs : List V} {ds : List D} (i : Nat), AtAll K F vs ds → AtAll K F (vs.set i v) (ds.set i d)
  | _, _, _, .nil => .nil
  | _, _, 0, .cons _ t => .cons h t
  | _, _, i + 1, .cons q t => .cons q (AtAll.set h i t)
theorem AtAll.snoc {vs : List V} {ds : List D} {v : V} {d : D} (t : AtAll K F vs ds) (h : At K F v d) : AtAll K F (vs ++ [v]) (ds ++ [d]) := t.append (.cons h .nil)
/-- a list of ints -/
theorem AtAll.ints : ∀ {vs : List V} {ns : List Int}, AtAll K F vs (ns.map PyData.int) → vs = ns.map V.int
  | [], [], .nil => rfl
  | _, n :: ns, .cons h t => by cases h; rw [AtAll.ints t]; rfl
theorem AtAll.of_ints : ∀ {ns : List Int}, AtAll K F (ns.map V.int) (ns.map PyData.int)
  | [] => .nil
  | n :: ns => .cons (.int n) AtAll.of_ints
end
/-! ### data without dicts, for == -/
mutual
def flat0 : D → Bool
  | .dict _ => false
  | .list xs => flats0 xs
  | .tuple xs => flats0 xs
  | _ => true
def flats0 : List D → Bool
  | [] => true
  | x :: xs => flat0 x && flats0 xs
end
section
variable {K : PySem.W.Frag} {F H : Hp}
mutual
theorem At.dp (e : Ex F H) : ∀ {v : V} {d : D}, At K F v d → flat0 d = true → Dp K H v d
  | _, _, .non, _ => .non
  | _, _, .bl b, _ => .bl b
  | _, _, .int i, _ => .int i
  | _, _, .str x, _ => .str x
  | _, _, .lst h t, q => .lst (.inl (.inl (e _ _ h))) (AtAll.dp e t (by unfold flat0 at q; exact q))
  | _, _, .tup h t, q => .tup (e.sqT h) (AtAll.dp e t (by unfold flat0 at q; exact q))
  | _, _, .dic h t, q => by unfold flat0 at q; cases q
  | _, _, .scr h, q => by unfold scrD flat0 at q; cases q
  | _, _, .obj h1 h2 t, q => by unfold objD flat0 at q; cases q
  | _, _, .zic h t, q => by unfold frzD flat0 at q; cases q
theorem AtAll.dp (e : Ex F H) : ∀ {vs : List V} {ds : List D}, AtAll K F vs ds → flats0 ds = true → DpAll K H vs ds
  | _, _, .nil, _ => .nil
  | _, _, .cons h t, q => by
    unfold flats0 at q
    rw [Bool.and_eq_true] at q
    exact .cons (At.dp e h q.1) (AtAll.dp e t q.2)
end
end
/-! ### states -/
/-- code objects and the like stay for ever -/
def ExtKeep (H H' : Hp) : Prop := ∀ b φ, H b = some (.ext φ) → H' b = some (.ext φ)
theorem ExtKeep.of {H H' : Hp} (e : Ex H H') : ExtKeep H H' := fun b φ h => e b _ h
/-- a thing that is owned: it stands at P in H, and leans on the frozen part -/
structure Rs where
  ok : Hp → Hp → (Addr → Prop) → Option (Option V) → Prop
  mono : ∀ {F F' H H' : Hp} {P : Addr → Prop} {sv : Option (Option V)}, ok F H P sv → Ex F F' → (∀ b, P b → H' b = H b) → ExtKeep H H' → ok F' H' P sv
inductive Sl where
  | unk
  | dat (d : D)
  | vv (v : V)
  | res (r : Rs)
structure S where
  s : List Sl
  g : List (Addr × Str) := []
def SlOk (K : PySem.W.Frag) (F H : Hp) (P : Addr → Prop) (sv : Option (Option V)) : Sl → Prop
  | .unk => True
  | .dat d => ∃ v, sv = some (some v) ∧ At K F v d
  | .vv v => sv = some (some v)
  | .res r => r.ok F H P sv
theorem SlOk.mono {K : PySem.W.Frag} {F F' H H' : Hp} {P : Addr → Prop} {sv : Option (Option V)} {s : Sl} (h : SlOk K F H P sv s) (e : Ex F F') (k : ∀ b, P b → H' b = H b) (x : ExtKeep H H') : SlOk K F' H' P sv s := by
  cases s with
  | unk => trivial
  | dat d => obtain ⟨v, h1, h2⟩ := h; exact ⟨v, h1, h2.ex e⟩
  | vv v => exact h
  | res r => exact r.mono h e k x
abbrev Ix := Nat ⊕ Nat
abbrev Fp := Ix → Addr → Prop
/-- no table of code objects -/
def NoTbl (o : HO) : Prop := ∀ ps, o ≠ .tbl ps
/-- something stands there, no table -/
def Live (H : Hp) (b : Addr) : Prop := ∃ o, H b = some o ∧ NoTbl o
theorem Live.ne {H : Hp} {b p : Addr} (h : Live H b) (hp : H p = none) : b ≠ p := fun z => by
  obtain ⟨o, q, _⟩ := h; rw [z, hp] at q; cases q
theorem Live.ex {H H' : Hp} {b : Addr} (h : Live H b) (e : Ex H H') : Live H' b := by
  obtain ⟨o, q, n⟩ := h; exact ⟨o, e b o q, n⟩
structure EnvW (K : PySem.W.Frag) (σ : L2.St) (s : S) (H F : Hp) (fp : Fp) : Prop where
  ex : Ex F H
  len : σ.length = s.s.length
  sl : ∀ (i : Nat) (x : Sl), s.s[i]? = some x → SlOk K F H (fp (.inl i)) σ[i]? x
  tb : LamX.Tabs s.g H
  dj : ∀ (i j : Ix) (b : Addr), i ≠ j → fp i b → ¬ fp j b
  nf : ∀ i b, fp i b → F b = none
  th : ∀ i b, fp i b → Live H b
  nt : ∀ b o, F b = some o → NoTbl o
structure Step (H F : Hp) (fp : Fp) (H' F' : Hp) (fp' : Fp) : Prop where
  ex : Ex F F'
  new : ∀ b, F b = none → Live H b → (∀ i, ¬ fp i b) → F' b = none
  keep : ∀ b o, H b = some o → NoTbl o → (∀ i, ¬ fp i b) → H' b = some o
  fpn : ∀ i b, fp' i b → (∃ j, fp j b) ∨ ¬ Live H b
  ext : ExtKeep H H'
theorem Step.live {H F H' F' : Hp} {fp fp' : Fp} (st : Step H F fp H' F' fp') {b : Addr} (h : Live H b) (n : ∀ i, ¬ fp i b) : Live H' b := by
  obtain ⟨o, q, x⟩ := h; exact ⟨o, st.keep b o q x n, x⟩
theorem Step.refl (H F : Hp) (fp : Fp) : Step H F fp H F fp := ⟨Ex.refl F, fun _ h _ _ => h, fun _ _ h _ _ => h, fun i b h => .inl ⟨i, h⟩, fun _ _ h => h⟩
theorem Step.trans {H F H1 F1 H2 F2 : Hp} {fp fp1 fp2 : Fp} (a : Step H F fp H1 F1 fp1) (b' : Step H1 F1 fp1 H2 F2 fp2) : Step H F fp H2 F2 fp2 where
  ex := a.ex.trans b'.ex
  new := fun c h1 h2 h3 => b'.new c (a.new c h1 h2 h3) (a.live h2 h3) fun i hi => by
    rcases a.fpn i c hi with ⟨j, hj⟩ | h
    · exact h3 j hj
    · exact h h2
  keep := fun c o h1 n h2 => b'.keep c o (a.keep c o h1 n h2) n fun i hi => by
    rcases a.fpn i c hi with ⟨j, hj⟩ | h
    · exact h2 j hj
    · exact h ⟨o, h1, n⟩
  fpn := fun i c h => by
    rcases b'.fpn i c h with ⟨j, hj⟩ | h
    · exact a.fpn j c hj
    · by_cases z : ∃ j, fp j c
      · exact .inl z
      · exact .inr fun l => h (a.live l fun i hi => z ⟨i, hi⟩)
  ext := fun b φ h => b'.ext b φ (a.ext b φ h)
/-- only new things have come -/
structure Grow (F H F' H' : Hp) : Prop where
  f : Ex F F'
  h : Ex H H'
  fh : Ex F' H'
  new : ∀ b, F b = none → (∃ o, H b = some o) → F' b = none
  nt : (∀ b o, F b = some o → NoTbl o) → ∀ b o, F' b = some o → NoTbl o
theorem Grow.refl {F H : Hp} (e : Ex F H) : Grow F H F H := ⟨Ex.refl F, Ex.refl H, e, fun _ h _ => h, fun h => h⟩
theorem Grow.trans {F H F1 H1 F2 H2 : Hp} (a : Grow F H F1 H1) (b : Grow F1 H1 F2 H2) : Grow F H F2 H2 :=
  ⟨a.f.trans b.f, a.h.trans b.h, b.fh, fun c h ⟨o, q⟩ => b.new c (a.new c h ⟨o, q⟩) ⟨o, a.h c o q⟩, fun h => b.nt (a.nt h)⟩
/-- a new frozen object -/
theorem Grow.laid {F H : Hp} {p : Addr} {o : HO} (e : Ex F H) (h : H p = none) (hn : NoTbl o := by intro ps z; cases z) : Grow F H (upd F p o) (upd H p o) where
  f := Ex.new (e.un h)
  h := Ex.new h
  fh := fun a u q => by
    by_cases z : a = p
    · subst z; rw [upd_same] at q ⊢; exact q
    · rw [upd_ne z] at q ⊢; exact e a u q
  new := fun b h1 ⟨u, h2⟩ => by rw [upd_ne (ne_of_none h2 h)]; exact h1
  nt := fun n b u q => by
    by_cases z : b = p
    · subst z; rw [upd_same] at q; cases q; exact hn
    · rw [upd_ne z] at q; exact n b u q
section
variable {K : PySem.W.Frag} {σ : L2.St} {s : S} {H F H' F' : Hp} {fp : Fp}
theorem Live.get {H H' : Hp} {b : Addr} (h : Live H b) (e : Ex H H') : H' b = H b := by
  obtain ⟨o, q, _⟩ := h; rw [q, e b o q]
theorem EnvW.grow (E : EnvW K σ s H F fp) (g : Grow F H F' H') : EnvW K σ s H' F' fp where
  ex := g.fh
  len := E.len
  sl := fun i x h => (E.sl i x h).mono g.f (fun b hb => (E.th _ b hb).get g.h) (ExtKeep.of g.h)
  tb := E.tb.ext g.h
  dj := E.dj
  nf := fun i b h => g.new b (E.nf i b h) (by obtain ⟨o, q, _⟩ := E.th i b h; exact ⟨o, q⟩)
  th := fun i b h => (E.th i b h).ex g.h
  nt := g.nt E.nt
theorem EnvW.growS (E : EnvW K σ s H F fp) (g : Grow F H F' H') : Step H F fp H' F' fp :=
  ⟨g.f, fun b h ⟨o, q, _⟩ _ => g.new b h ⟨o, q⟩, fun b o h _ _ => g.h b o h, fun i b h => .inl ⟨i, h⟩, ExtKeep.of g.h⟩
/-- a footprint changed at one place -/
def fpSet (fp : Fp) (i : Ix) (P : Addr → Prop) : Fp := fun j => if j = i then P else fp j
theorem fpSet_same {i : Ix} {P : Addr → Prop} : fpSet fp i P i = P := if_pos rfl
theorem fpSet_ne {i j : Ix} {P : Addr → Prop} (h : j ≠ i) : fpSet fp i P j = fp j := if_neg h
def S.set (s : S) (i : Nat) (x : Sl) : S := ⟨s.s.set i x, s.g⟩
abbrev noP : Addr → Prop := fun _ => False
/-- slot i gets v -/
theorem EnvW.set (E : EnvW K σ s H F fp) {i : Nat} {v : V} {x : Sl} (h : SlOk K F H noP (some (some v)) x) : EnvW K (σ.set i (some v)) (s.set i x) H F (fpSet fp (.inl i) noP) where
  ex := E.ex
  len := by simp [S.set, E.len]
  sl := fun j y hj => by
    by_cases z : j = i
    · subst z
      have hl : j < s.s.length := by
        have := (List.getElem?_eq_some_iff.mp hj).1
        simpa [S.set] using this
      have e1 : (s.s.set j x)[j]? = some x := List.getElem?_set_self hl
      rw [show (s.set j x).s = s.s.set j x from rfl, e1] at hj
      cases hj
      rw [fpSet_same, List.getElem?_set_self (by rw [E.len]; exact hl)]
      exact h
    · have e1 : (s.s.set i x)[j]? = s.s[j]? := List.getElem?_set_ne (Ne.symm z)
      rw [show (s.set i x).s = s.s.set i x from rfl, e1] at hj
      rw [fpSet_ne (by intro q; cases q; exact z rfl), List.getElem?_set_ne (Ne.symm z)]
      exact E.sl j y hj
  tb := E.tb
  dj := fun j k b hjk h1 h2 => by
    by_cases z : j = .inl i
    · subst z; rw [fpSet_same] at h1; exact h1
    · rw [fpSet_ne z] at h1
      by_cases y : k = .inl i
      · subst y; rw [fpSet_same] at h2; exact h2
      · rw [fpSet_ne y] at h2; exact E.dj j k b hjk h1 h2
  nf := fun j b h1 => by
    by_cases z : j = .inl i
    · subst z; rw [fpSet_same] at h1; exact h1.elim
    · rw [fpSet_ne z] at h1; exact E.nf j b h1
  th := fun j b h1 => by
    by_cases z : j = .inl i
    · subst z; rw [fpSet_same] at h1; exact h1.elim
    · rw [fpSet_ne z] at h1; exact E.th j b h1
  nt := E.nt
theorem Step.drop {i : Ix} : Step H F fp H F (fpSet fp i noP) := ⟨Ex.refl F, fun _ h _ _ => h, fun _ _ h _ _ => h, fun j b h => by
  by_cases z : j = i
  · subst z; rw [fpSet_same] at h; exact h.elim
  · rw [fpSet_ne z] at h; exact .inl ⟨j, h⟩, fun _ _ h => h⟩
end
end DL

namespace DL
open PySem PySem.Spec PyProof.Rows L2
/-! ### judgements -/
section
variable (K : PySem.W.Frag)
def Ev (te : TE) (s : S) (d : D) (s' : S) : Prop := ∀ σ H F fp, EnvW K σ s H F fp → ∀ Q : VK, (∀ v H' F' fp', EnvW K σ s' H' F' fp' → Step H F fp H' F' fp' → At K F' v d → Q v H') → te σ H Q
def EvT (tt : TT) (s : S) (b : Bool) (s' : S) : Prop := ∀ σ H F fp, EnvW K σ s H F fp → ∀ Q : Bool → Hp → Prop, (∀ H' F' fp', EnvW K σ s' H' F' fp' → Step H F fp H' F' fp' → Q b H') → tt σ H Q
def EvA (ta : TA) (s : S) (ds : List D) (s' : S) : Prop := ∀ σ H F fp, EnvW K σ s H F fp → ∀ Q : List V → Hp → Prop, (∀ vs H' F' fp', EnvW K σ s' H' F' fp' → Step H F fp H' F' fp' → AtAll K F' vs ds → Q vs H') → ta σ H Q
/-- P is a new thing's place -/
structure Own (H : Hp) (fp : Fp) (H' F' : Hp) (fp' : Fp) (P : Addr → Prop) : Prop where
  nf : ∀ b, P b → F' b = none
  dj : ∀ b i, P b → ¬ fp' i b
  th : ∀ b, P b → Live H' b
  new : ∀ b, P b → (∃ j, fp j b) ∨ ¬ Live H b
def EvO (te : TE) (s : S) (r : Rs) (s' : S) : Prop := ∀ σ H F fp, EnvW K σ s H F fp → ∀ Q : VK, (∀ v H' F' fp' P, EnvW K σ s' H' F' fp' → Step H F fp H' F' fp' → r.ok F' H' P (some (some v)) → Own H fp H' F' fp' P → Q v H') → te σ H Q
end
/-- a list of one's own, at ov's address where that is told -/
def lstR (K : PySem.W.Frag) (ov : Option V) (ds : List D) : Rs where
  ok := fun F H P sv => ∃ a vs, sv = some (some (.ref a)) ∧ (∀ v, ov = some v → v = .ref a) ∧ (∀ b, P b ↔ b = a) ∧ H a = some (.lst vs) ∧ AtAll K F vs ds
  mono := fun ⟨a, vs, h1, h2, h3, h4, h5⟩ e k _ => ⟨a, vs, h1, h2, h3, by rw [k a ((h3 a).mpr rfl)]; exact h4, h5.ex e⟩
abbrev lst (K : PySem.W.Frag) (ds : List D) : Sl := .res (lstR K none ds)
section
variable {K : PySem.W.Frag} {s s1 s2 s3 s' : S} {ta tb te tc : TE} {t u : TT} {x y z d : D} {b : Bool}
/-! ### values -/
theorem ev_var {i : Nat} (h : s.s[i]? = some (.dat d)) : Ev K (tVar i) s d s := fun σ H F fp E Q q => by
  obtain ⟨v, h1, h2⟩ := E.sl i _ h
  exact ⟨v, h1, q v H F fp E (Step.refl _ _ _) h2⟩
theorem ev_int {i : Int} : Ev K (tC (.int i)) s (.int i) s := fun σ H F fp E Q q => q _ H F fp E (Step.refl _ _ _) (.int i)
theorem ev_bl {i : Bool} : Ev K (tC (.bl i)) s (.bool i) s := fun σ H F fp E Q q => q _ H F fp E (Step.refl _ _ _) (.bl i)
theorem ev_str {i : Str} : Ev K (tC (.str i)) s (.str i) s := fun σ H F fp E Q q => q _ H F fp E (Step.refl _ _ _) (.str i)
theorem ev_non : Ev K (tC .non) s .none s := fun σ H F fp E Q q => q _ H F fp E (Step.refl _ _ _) .non
theorem Ev.to (h : Ev K te s x s') (e : x = y) : Ev K te s y s' := e ▸ h
theorem EvT.to {c : Bool} (h : EvT K t s b s') (e : b = c) : EvT K t s c s' := e ▸ h
/-! ### argument lists -/
theorem ea_nil : EvA K tNil s [] s := fun σ H F fp E Q q => q _ H F fp E (Step.refl _ _ _) .nil
theorem ea_cons {tr : TA} {ds : List D} (h : Ev K te s d s1) (hr : EvA K tr s1 ds s2) : EvA K (tCons te tr) s (d :: ds) s2 := fun σ H F fp E Q q =>
  h σ H F fp E _ fun v H1 F1 fp1 E1 st1 a1 => hr σ H1 F1 fp1 E1 _ fun vs H2 F2 fp2 E2 st2 a2 => q _ H2 F2 fp2 E2 (st1.trans st2) (.cons (a1.ex st2.ex) a2)
/-! ### displays -/
theorem ev_tup {t : TA} {ds : List D} (h : EvA K t s ds s1) (hl : ds.length ≤ sizeLine) : Ev K (tTup t) s (.tuple ds) s1 := fun σ H F fp E Q q =>
  h σ H F fp E _ fun vs H1 F1 fp1 E1 st1 a1 => ⟨by rw [a1.length]; exact hl, fun p hp => by
    have g : Grow F1 H1 (upd F1 p (.tup vs)) (upd H1 p (.tup vs)) := Grow.laid E1.ex hp
    exact q _ _ _ fp1 (E1.grow g) (st1.trans (E1.growS g)) (.tup (.inl (.inl upd_same)) (a1.ex g.f))⟩
theorem ev_lst {t : TA} {ds : List D} (h : EvA K t s ds s1) (hl : ds.length ≤ sizeLine) : Ev K (tLst t) s (.list ds) s1 := fun σ H F fp E Q q =>
  h σ H F fp E _ fun vs H1 F1 fp1 E1 st1 a1 => ⟨by rw [a1.length]; exact hl, fun p hp => by
    have g : Grow F1 H1 (upd F1 p (.lst vs)) (upd H1 p (.lst vs)) := Grow.laid E1.ex hp
    exact q _ _ _ fp1 (E1.grow g) (st1.trans (E1.growS g)) (.lst upd_same (a1.ex g.f))⟩
/-- a new thing that is owned: H grows, F does not -/
theorem EnvW.growH {σ : L2.St} {H F : Hp} {fp : Fp} {p : Addr} {o : HO} (E : EnvW K σ s H F fp) (hp : H p = none) : EnvW K σ s (upd H p o) F fp where
  ex := E.ex.trans (Ex.new hp)
  len := E.len
  sl := fun i x h => (E.sl i x h).mono (Ex.refl F) (fun b hb => (E.th _ b hb).get (Ex.new hp)) (ExtKeep.of (Ex.new hp))
  tb := E.tb.ext (Ex.new hp)
  dj := E.dj
  nf := E.nf
  th := fun i b h => (E.th i b h).ex (Ex.new hp)
  nt := E.nt
theorem Step.growH {H F : Hp} {fp : Fp} {p : Addr} {o : HO} (hp : H p = none) : Step H F fp (upd H p o) F fp :=
  ⟨Ex.refl F, fun _ h _ _ => h, fun b u h _ _ => by rw [upd_ne (ne_of_none h hp)]; exact h, fun i b h => .inl ⟨i, h⟩, ExtKeep.of (Ex.new hp)⟩
theorem Own.laid {σ : L2.St} {H F : Hp} {fp : Fp} {p : Addr} {o : HO} {H0 : Hp} {fp0 : Fp} {F0 : Hp} (E : EnvW K σ s H F fp) (st : Step H0 F0 fp0 H F fp) (hp : H p = none) (hn : NoTbl o := by intro ps z; cases z) : Own H0 fp0 (upd H p o) F fp (fun b => b = p) where
  nf := fun b h => by subst h; exact E.ex.un hp
  dj := fun b i h1 h2 => by subst h1; exact (E.th i _ h2).ne hp rfl
  th := fun b h => by subst h; exact ⟨o, upd_same, hn⟩
  new := fun b h => by
    subst h
    by_cases z : ∃ j, fp0 j b
    · exact .inl z
    · exact .inr fun l => (st.live l fun i hi => z ⟨i, hi⟩).ne hp rfl
theorem eo_lst {t : TA} {ds : List D} (h : EvA K t s ds s1) (hl : ds.length ≤ sizeLine) : EvO K (tLst t) s (lstR K none ds) s1 := fun σ H F fp E Q q =>
  h σ H F fp E _ fun vs H1 F1 fp1 E1 st1 a1 => ⟨by rw [a1.length]; exact hl, fun p hp =>
    q _ _ F1 fp1 (fun b => b = p) (E1.growH hp) (st1.trans (Step.growH hp)) ⟨p, vs, rfl, (fun _ z => nomatch z), fun _ => Iff.rfl, upd_same, a1⟩ (Own.laid E1 st1 hp)⟩
/-! ### operators by data: an operand may be an owned list -/
def AtC (K : PySem.W.Frag) (F H : Hp) (v : V) (d : D) : Prop := At K F v d ∨ ∃ a vs ds, v = .ref a ∧ d = .list ds ∧ H a = some (.lst vs) ∧ AtAll K F vs ds
inductive AtCs (K : PySem.W.Frag) (F H : Hp) : List V → List D → Prop
  | nil : AtCs K F H [] []
  | cons {v : V} {vs : List V} {d : D} {ds : List D} : AtC K F H v d → AtCs K F H vs ds → AtCs K F H (v :: vs) (d :: ds)
theorem AtCs.of {F H : Hp} : ∀ {vs : List V} {ds : List D}, AtAll K F vs ds → AtCs K F H vs ds
  | _, _, .nil => .nil
  | _, _, .cons h t => .cons (.inl h) (AtCs.of t)
def rD2 (K : PySem.W.Frag) (ok : D → D → Prop) (f : D → D → D) : R2 := fun x y H Q => ∃ F dx dy, Ex F H ∧ AtC K F H x dx ∧ AtC K F H y dy ∧ ok dx dy ∧ ∀ v H' F', Grow F H F' H' → At K F' v (f dx dy) → Q v H'
theorem ev_op {ok : D → D → Prop} {f : D → D → D} (ha : Ev K ta s x s1) (hb : Ev K tb s1 y s2) (h : ok x y) : Ev K (tOp (rD2 K ok f) ta tb) s (f x y) s2 := fun σ H F fp E Q q =>
  ha σ H F fp E _ fun vx H1 F1 fp1 E1 st1 a1 => hb σ H1 F1 fp1 E1 _ fun vy H2 F2 fp2 E2 st2 a2 =>
    ⟨F2, x, y, E2.ex, .inl (a1.ex st2.ex), .inl a2, h, fun v H' F' g a => q v H' F' fp2 (E2.grow g) ((st1.trans st2).trans (E2.growS g)) a⟩
def rD1 (K : PySem.W.Frag) (ok : D → Prop) (f : D → D) : V → Hp → VK → Prop := fun x H Q => ∃ F dx, Ex F H ∧ AtC K F H x dx ∧ ok dx ∧ ∀ v H' F', Grow F H F' H' → At K F' v (f dx) → Q v H'
theorem ev_un {ok : D → Prop} {f : D → D} (ha : Ev K ta s x s1) (h : ok x) : Ev K (tUn (rD1 K ok f) ta) s (f x) s1 := fun σ H F fp E Q q =>
  ha σ H F fp E _ fun vx H1 F1 fp1 E1 st1 a1 => ⟨F1, x, E1.ex, .inl a1, h, fun v H' F' g a => q v H' F' fp1 (E1.grow g) (st1.trans (E1.growS g)) a⟩
/-- a built-in called with data -/
def rDn (K : PySem.W.Frag) (ok : List D → Prop) (f : List D → D) : List V → Hp → VK → Prop := fun xs H Q => ∃ F ds, Ex F H ∧ AtCs K F H xs ds ∧ ok ds ∧ ∀ v H' F', Grow F H F' H' → At K F' v (f ds) → Q v H'
theorem ev_cb {ok : List D → Prop} {f : List D → D} {t : TA} {ds : List D} (ha : EvA K t s ds s1) (h : ok ds) : Ev K (tCB (rDn K ok f) t) s (f ds) s1 := fun σ H F fp E Q q =>
  ha σ H F fp E _ fun vs H1 F1 fp1 E1 st1 a1 => ⟨F1, ds, E1.ex, AtCs.of a1, h, fun v H' F' g a => q v H' F' fp1 (E1.grow g) (st1.trans (E1.growS g)) a⟩
/-! ### an owned list as an operand -/
theorem EnvW.own {σ : L2.St} {H F : Hp} {fp : Fp} {i : Nat} {ov : Option V} {ds : List D} (E : EnvW K σ s H F fp) (h : s.s[i]? = some (.res (lstR K ov ds))) : ∃ a vs, σ[i]? = some (some (.ref a)) ∧ (∀ b, fp (.inl i) b ↔ b = a) ∧ H a = some (.lst vs) ∧ AtAll K F vs ds := by
  obtain ⟨a, vs, h1, _, h3, h4, h5⟩ := E.sl i _ h
  exact ⟨a, vs, h1, h3, h4, h5⟩
theorem ev_op1 {ok : D → D → Prop} {f : D → D → D} {i : Nat} {ov ov' : Option V} {ds ds' : List D} (hi : s.s[i]? = some (.res (lstR K ov ds))) (hb : Ev K tb s y s2) (hi2 : s2.s[i]? = some (.res (lstR K ov' ds'))) (h : ok (.list ds') y) : Ev K (tOp (rD2 K ok f) (tVar i) tb) s (f (.list ds') y) s2 := fun σ H F fp E Q q => by
  obtain ⟨a, vs, h1, _⟩ := E.own hi
  refine ⟨.ref a, h1, hb σ H F fp E _ fun vy H2 F2 fp2 E2 st2 a2 => ?_⟩
  obtain ⟨a', vs', h1', _, h4, h5⟩ := E2.own hi2
  rw [h1] at h1'
  cases h1'
  exact ⟨F2, .list ds', y, E2.ex, .inr ⟨_, _, _, rfl, rfl, h4, h5⟩, .inl a2, h, fun v H' F' g a => q v H' F' fp2 (E2.grow g) (st2.trans (E2.growS g)) a⟩
theorem ev_op2 {ok : D → D → Prop} {f : D → D → D} {i : Nat} {ov : Option V} {ds : List D} (ha : Ev K ta s x s1) (hi : s1.s[i]? = some (.res (lstR K ov ds))) (h : ok x (.list ds)) : Ev K (tOp (rD2 K ok f) ta (tVar i)) s (f x (.list ds)) s1 := fun σ H F fp E Q q =>
  ha σ H F fp E _ fun vx H1 F1 fp1 E1 st1 a1 => by
    obtain ⟨a, vs, h1, _, h4, h5⟩ := E1.own hi
    exact ⟨.ref a, h1, F1, x, .list ds, E1.ex, .inl a1, .inr ⟨_, _, _, rfl, rfl, h4, h5⟩, h, fun v H' F' g a => q v H' F' fp1 (E1.grow g) (st1.trans (E1.growS g)) a⟩
theorem ev_cb1 {ok : List D → Prop} {f : List D → D} {i : Nat} {ov : Option V} {ds : List D} (hi : s.s[i]? = some (.res (lstR K ov ds))) (h : ok [.list ds]) : Ev K (tCB (rDn K ok f) (tCons (tVar i) tNil)) s (f [.list ds]) s := fun σ H F fp E Q q => by
  obtain ⟨a, vs, h1, _, h4, h5⟩ := E.own hi
  exact ⟨.ref a, h1, F, [.list ds], E.ex, .cons (.inr ⟨_, _, _, rfl, rfl, h4, h5⟩) .nil, h, fun v H' F' g a => q v H' F' fp (E.grow g) (E.growS g) a⟩
/-! ### tests -/
theorem et_test (h : Ev K te s (.bool b) s1) : EvT K (tTest te) s b s1 := fun σ H F fp E Q q =>
  h σ H F fp E _ fun v H1 F1 fp1 E1 st1 a1 => by cases a1; exact ⟨b, rfl, q H1 F1 fp1 E1 st1⟩
theorem et_B (h : Ev K te s (.bool b) s1) : EvT K (tB te) s b s1 := fun σ H F fp E Q q =>
  h σ H F fp E _ fun v H1 F1 fp1 E1 st1 a1 => by cases a1; exact ⟨b, rfl, q H1 F1 fp1 E1 st1⟩
theorem et_not (h : EvT K t s b s1) : EvT K (tNot t) s (!b) s1 := fun σ H F fp E Q q => h σ H F fp E _ fun H1 F1 fp1 E1 st1 => q H1 F1 fp1 E1 st1
theorem et_and {a : Bool} (h1 : EvT K t s a s1) (h2 : a = true → EvT K u s1 b s1) : EvT K (tAnd t u) s (a && b) s1 := fun σ H F fp E Q q =>
  h1 σ H F fp E _ fun H1 F1 fp1 E1 st1 => by
    cases a with
    | true =>
      show u σ H1 Q
      exact h2 rfl σ H1 F1 fp1 E1 Q fun H2 F2 fp2 E2 st2 => q H2 F2 fp2 E2 (st1.trans st2)
    | false =>
      show Q false H1
      exact q H1 F1 fp1 E1 st1
theorem et_or {a : Bool} (h1 : EvT K t s a s1) (h2 : a = false → EvT K u s1 b s1) : EvT K (tOr t u) s (a || b) s1 := fun σ H F fp E Q q =>
  h1 σ H F fp E _ fun H1 F1 fp1 E1 st1 => by
    cases a with
    | true =>
      show Q true H1
      exact q H1 F1 fp1 E1 st1
    | false =>
      show u σ H1 Q
      exact h2 rfl σ H1 F1 fp1 E1 Q fun H2 F2 fp2 E2 st2 => q H2 F2 fp2 E2 (st1.trans st2)
theorem ev_and {a : Bool} (h1 : Ev K ta s (.bool a) s1) (h2 : a = true → Ev K tb s1 (.bool b) s1) : Ev K (tAndV ta tb) s (.bool (a && b)) s1 := fun σ H F fp E Q q =>
  h1 σ H F fp E _ fun v H1 F1 fp1 E1 st1 a1 => by
    cases a1
    refine ⟨a, rfl, ?_⟩
    cases a with
    | true =>
      show tb σ H1 Q
      exact h2 rfl σ H1 F1 fp1 E1 Q fun v H2 F2 fp2 E2 st2 a2 => q v H2 F2 fp2 E2 (st1.trans st2) a2
    | false =>
      show Q (.bl false) H1
      exact q _ H1 F1 fp1 E1 st1 (.bl false)
theorem ev_or {a : Bool} (h1 : Ev K ta s (.bool a) s1) (h2 : a = false → Ev K tb s1 (.bool b) s1) : Ev K (tOrV ta tb) s (.bool (a || b)) s1 := fun σ H F fp E Q q =>
  h1 σ H F fp E _ fun v H1 F1 fp1 E1 st1 a1 => by
    cases a1
    refine ⟨a, rfl, ?_⟩
    cases a with
    | true =>
      show Q (.bl true) H1
      exact q _ H1 F1 fp1 E1 st1 (.bl true)
    | false =>
      show tb σ H1 Q
      exact h2 rfl σ H1 F1 fp1 E1 Q fun v H2 F2 fp2 E2 st2 a2 => q v H2 F2 fp2 E2 (st1.trans st2) a2
theorem ev_not {a : Bool} (h1 : Ev K ta s (.bool a) s1) : Ev K (tNotV ta) s (.bool (!a)) s1 := fun σ H F fp E Q q =>
  h1 σ H F fp E _ fun v H1 F1 fp1 E1 st1 a1 => by cases a1; exact ⟨a, rfl, q _ H1 F1 fp1 E1 st1 (.bl _)⟩
theorem ev_if (h : EvT K t s b s1) (h1 : b = true → Ev K ta s1 x s2) (h2 : b = false → Ev K tb s1 x s2) : Ev K (tIf t ta tb) s x s2 := fun σ H F fp E Q q =>
  h σ H F fp E _ fun H1 F1 fp1 E1 st1 => by
    cases b with
    | true =>
      show ta σ H1 Q
      exact h1 rfl σ H1 F1 fp1 E1 Q fun v H2 F2 fp2 E2 st2 a2 => q v H2 F2 fp2 E2 (st1.trans st2) a2
    | false =>
      show tb σ H1 Q
      exact h2 rfl σ H1 F1 fp1 E1 Q fun v H2 F2 fp2 E2 st2 a2 => q v H2 F2 fp2 E2 (st1.trans st2) a2
theorem ev_ifD (h : EvT K t s b s1) (h1 : b = true → Ev K ta s1 x s1) (h2 : b = false → Ev K tb s1 y s1) : Ev K (tIf t ta tb) s (if b = true then x else y) s1 := by
  refine ev_if h (fun e => ?_) (fun e => ?_)
  · subst e; exact h1 rfl
  · subst e; exact h2 rfl
/-- a < b < c -/
theorem ev_chain {ok ok' : D → D → Prop} {f f' : D → D → D} {k k' : Bool} (ha : Ev K ta s x s1) (hb : Ev K tb s1 y s2) (hok : ok x y) (hf : f x y = .bool k) (hc : k = true → Ev K tc s2 z s2) (hok' : k = true → ok' y z) (hf' : k = true → f' y z = .bool k') :
    Ev K (tChain (rD2 K ok f) (rD2 K ok' f') ta tb tc) s (.bool (k && k')) s2 := fun σ H F fp E Q q =>
  ha σ H F fp E _ fun vx H1 F1 fp1 E1 st1 a1 => hb σ H1 F1 fp1 E1 _ fun vy H2 F2 fp2 E2 st2 a2 =>
    ⟨F2, x, y, E2.ex, .inl (a1.ex st2.ex), .inl a2, hok, fun v H3 F3 g a => by
      have E3 := E2.grow g
      have st3 := (st1.trans st2).trans (E2.growS g)
      rw [hf] at a
      cases a
      refine ⟨k, rfl, ?_⟩
      cases k with
      | true =>
        refine hc rfl σ H3 F3 fp2 E3 _ fun vz H4 F4 fp4 E4 st4 a4 => ⟨F4, y, z, E4.ex, .inl (a2.ex (g.f.trans st4.ex)), .inl a4, hok' rfl, fun v H5 F5 g5 a5 => ?_⟩
        rw [hf' rfl] at a5
        exact q v H5 F5 fp4 (E4.grow g5) ((st3.trans st4).trans (E4.growS g5)) a5
      | false => exact q _ H3 F3 fp2 E3 st3 (.bl false)⟩
end
end DL

namespace DL
open PySem PySem.Spec PyProof.Rows L2
/-! ### statements -/
inductive Out where
  | nx (s : S) | bk (s : S) | rt (d : D) (s : S) | ro (r : Rs) (s : S) | ex (C : Addr) (fl : Str) (d : D) (s : S)
def OutOk (K : PySem.W.Frag) (E : XK) (H F : Hp) (fp : Fp) (Ed : Ends) : Out → Prop
  | .nx s' => ∀ σ' H' F' fp', EnvW K σ' s' H' F' fp' → Step H F fp H' F' fp' → Ed.nx σ' H'
  | .bk s' => ∀ σ' H' F' fp', EnvW K σ' s' H' F' fp' → Step H F fp H' F' fp' → Ed.bk σ' H'
  | .rt d s' => ∀ σ' v H' F' fp', EnvW K σ' s' H' F' fp' → Step H F fp H' F' fp' → At K F' v d → Ed.rt v H'
  | .ro r s' => ∀ σ' v H' F' fp' P, EnvW K σ' s' H' F' fp' → Step H F fp H' F' fp' → r.ok F' H' P (some (some v)) → Own H fp H' F' fp' P → Ed.rt v H'
  | .ex C fl d s' => ∀ σ' dd v H' F' fp', EnvW K σ' s' H' F' fp' → Step H F fp H' F' fp' → F' dd = some (.xd [(fl, v)]) → At K F' v d → E (.ref C) (some dd) H'
def Run (K : PySem.W.Frag) (E : XK) (ts : TS) (s : S) (o : Out) : Prop := ∀ σ H F fp, EnvW K σ s H F fp → ∀ Ed : Ends, OutOk K E H F fp Ed o → ts Ed σ H
theorem Own.step {H F H1 F1 H' F' : Hp} {fp fp1 fp' : Fp} {P : Addr → Prop} (st : Step H F fp H1 F1 fp1) (o : Own H1 fp1 H' F' fp' P) : Own H fp H' F' fp' P := ⟨o.nf, o.dj, o.th, fun b h => by
  rcases o.new b h with ⟨j, hj⟩ | hn
  · exact st.fpn j b hj
  · by_cases z : ∃ j, fp j b
    · exact .inl z
    · exact .inr fun l => hn (st.live l fun i hi => z ⟨i, hi⟩)⟩
theorem OutOk.step {K : PySem.W.Frag} {E : XK} {H F H1 F1 : Hp} {fp fp1 : Fp} {Ed : Ends} {o : Out} (h : OutOk K E H F fp Ed o) (st : Step H F fp H1 F1 fp1) : OutOk K E H1 F1 fp1 Ed o := by
  cases o with
  | nx s' => exact fun σ' H' F' fp' e st' => h σ' H' F' fp' e (st.trans st')
  | bk s' => exact fun σ' H' F' fp' e st' => h σ' H' F' fp' e (st.trans st')
  | rt d s' => exact fun σ' v H' F' fp' e st' a => h σ' v H' F' fp' e (st.trans st') a
  | ro r s' => exact fun σ' v H' F' fp' P e st' a o => h σ' v H' F' fp' P e (st.trans st') a (o.step st)
  | ex C fl d s' => exact fun σ' dd v H' F' fp' e st' a b => h σ' dd v H' F' fp' e (st.trans st') a b
def Out.ends : Out → Bool
  | .nx _ => false
  | _ => true
theorem OutOk.nx {K : PySem.W.Frag} {E : XK} {H F : Hp} {fp : Fp} {Ed : Ends} {N : L2.St → Hp → Prop} {o : Out} (h : OutOk K E H F fp Ed o) (e : o.ends = true) : OutOk K E H F fp { Ed with nx := N } o := by
  cases o with
  | nx s' => cases e
  | bk s' => exact h
  | rt d s' => exact h
  | ro r s' => exact h
  | ex C fl d s' => exact h
/-- what a state forgets -/
def SLe (s1 s2 : S) : Prop := s1.s.length = s2.s.length ∧ (∀ (i : Nat) (x : Sl), s2.s[i]? = some x → x = .unk ∨ s1.s[i]? = some x) ∧ s1.g = s2.g
theorem SLe.refl (s : S) : SLe s s := ⟨rfl, fun _ _ h => .inr h, rfl⟩
theorem EnvW.le {K : PySem.W.Frag} {σ : L2.St} {s1 s2 : S} {H F : Hp} {fp : Fp} (E : EnvW K σ s1 H F fp) (l : SLe s1 s2) : EnvW K σ s2 H F fp where
  ex := E.ex
  len := E.len.trans l.1
  sl := fun i x h => by
    rcases l.2.1 i x h with rfl | q
    · trivial
    · exact E.sl i x q
  tb := by rw [← l.2.2]; exact E.tb
  dj := E.dj
  nf := E.nf
  th := E.th
  nt := E.nt
/-- slot i gets an owned thing -/
theorem EnvW.setO {K : PySem.W.Frag} {σ : L2.St} {s : S} {H F H0 : Hp} {fp fp0 : Fp} {i : Nat} {v : V} {r : Rs} {P : Addr → Prop} (E : EnvW K σ s H F fp) (h : r.ok F H P (some (some v))) (o : Own H0 fp0 H F fp P) : EnvW K (σ.set i (some v)) (s.set i (.res r)) H F (fpSet fp (.inl i) P) where
  ex := E.ex
  len := by simp [S.set, E.len]
  sl := fun j y hj => by
    by_cases z : j = i
    · subst z
      have hl : j < s.s.length := by
        have := (List.getElem?_eq_some_iff.mp hj).1
        simpa [S.set] using this
      have e1 : (s.s.set j (.res r))[j]? = some (.res r) := List.getElem?_set_self hl
      rw [show (s.set j (.res r)).s = s.s.set j (.res r) from rfl, e1] at hj
      cases hj
      rw [fpSet_same, List.getElem?_set_self (by rw [E.len]; exact hl)]
      exact h
    · have e1 : (s.s.set i (.res r))[j]? = s.s[j]? := List.getElem?_set_ne (Ne.symm z)
      rw [show (s.set i (.res r)).s = s.s.set i (.res r) from rfl, e1] at hj
      rw [fpSet_ne (by intro q; cases q; exact z rfl), List.getElem?_set_ne (Ne.symm z)]
      exact E.sl j y hj
  tb := E.tb
  dj := fun j k b hjk h1 h2 => by
    by_cases z : j = .inl i
    · subst z; rw [fpSet_same] at h1; rw [fpSet_ne (Ne.symm hjk)] at h2; exact o.dj b k h1 h2
    · rw [fpSet_ne z] at h1
      by_cases y : k = .inl i
      · subst y; rw [fpSet_same] at h2; exact o.dj b j h2 h1
      · rw [fpSet_ne y] at h2; exact E.dj j k b hjk h1 h2
  nf := fun j b h1 => by
    by_cases z : j = .inl i
    · subst z; rw [fpSet_same] at h1; exact o.nf b h1
    · rw [fpSet_ne z] at h1; exact E.nf j b h1
  th := fun j b h1 => by
    by_cases z : j = .inl i
    · subst z; rw [fpSet_same] at h1; exact o.th b h1
    · rw [fpSet_ne z] at h1; exact E.th j b h1
  nt := E.nt
theorem Step.own {H F H' F' : Hp} {fp fp' : Fp} {P : Addr → Prop} {i : Ix} (st : Step H F fp H' F' fp') (o : Own H fp H' F' fp' P) : Step H F fp H' F' (fpSet fp' i P) := ⟨st.ex, st.new, st.keep, fun j b h => by
  by_cases z : j = i
  · subst z; rw [fpSet_same] at h; exact o.new b h
  · rw [fpSet_ne z] at h; exact st.fpn j b h, st.ext⟩
section
variable {K : PySem.W.Frag} {E : XK} {s s1 s2 s' : S} {te ta tb : TE} {t u ts : TS} {tt : TT} {d : D} {o : Out} {b : Bool}
theorem run_seq (h1 : Run K E t s (.nx s1)) (h2 : Run K E u s1 o) : Run K E (tSeq t u) s o := fun σ H F fp e Ed q =>
  h1 σ H F fp e _ fun σ' H' F' fp' e' st => h2 σ' H' F' fp' e' Ed (q.step st)
theorem run_end (h1 : Run K E t s o) (he : o.ends = true) : Run K E (tSeq t u) s o := fun σ H F fp e Ed q => h1 σ H F fp e _ (q.nx he)
theorem run_asg {i : Nat} (h : Ev K te s d s1) : Run K E (tAsg te (gName i)) s (.nx (s1.set i (.dat d))) := fun σ H F fp e Ed q =>
  h σ H F fp e _ fun v H' F' fp' e' st a => q _ H' F' _ (e'.set (i := i) ⟨v, rfl, a⟩) (st.trans Step.drop)
theorem run_asgO {i : Nat} {r : Rs} (h : EvO K te s r s1) : Run K E (tAsg te (gName i)) s (.nx (s1.set i (.res r))) := fun σ H F fp e Ed q =>
  h σ H F fp e _ fun v H' F' fp' P e' st a o => q _ H' F' _ (e'.setO (i := i) a o) (st.own o)
theorem run_drop (h : Ev K te s d s1) : Run K E (tDrop te) s (.nx s1) := fun σ H F fp e Ed q =>
  h σ H F fp e _ fun v H' F' fp' e' st a => q _ H' F' _ e' st
theorem run_ret (h : Ev K te s d s1) : Run K E (tRet te) s (.rt d s1) := fun σ H F fp e Ed q =>
  h σ H F fp e _ fun v H' F' fp' e' st a => q σ v H' F' _ e' st a
theorem run_retO {r : Rs} (h : EvO K te s r s1) : Run K E (tRet te) s (.ro r s1) := fun σ H F fp e Ed q =>
  h σ H F fp e _ fun v H' F' fp' P e' st a o => q σ v H' F' _ P e' st a o
theorem run_if (h : EvT K tt s b s1) (h1 : b = true → Run K E t s1 o) (h2 : b = false → Run K E u s1 o) : Run K E (tIfS tt t u) s o := fun σ H F fp e Ed q =>
  h σ H F fp e _ fun H1 F1 fp1 e1 st => by
    cases b with
    | true =>
      show t Ed σ H1
      exact h1 rfl σ H1 F1 fp1 e1 Ed (q.step st)
    | false =>
      show u Ed σ H1
      exact h2 rfl σ H1 F1 fp1 e1 Ed (q.step st)
theorem run_yes (h : EvT K tt s true s1) (h1 : Run K E t s1 o) : Run K E (tIfS tt t u) s o := run_if h (fun _ => h1) (fun z => nomatch z)
theorem run_no (h : EvT K tt s false s1) (h1 : Run K E u s1 o) : Run K E (tIfS tt t u) s o := run_if h (fun z => nomatch z) (fun _ => h1)
theorem run_next : Run K E tNext s (.nx s) := fun σ H F fp e Ed q => q σ H F fp e (Step.refl _ _ _)
theorem run_break : Run K E tBreak s (.bk s) := fun σ H F fp e Ed q => q σ H F fp e (Step.refl _ _ _)
theorem run_le (h : Run K E t s (.nx s1)) (l : SLe s1 s2) : Run K E t s (.nx s2) := fun σ H F fp e Ed q => h σ H F fp e Ed fun σ' H' F' fp' e' st => q σ' H' F' fp' (e'.le l) st
theorem run_pre (h : Run K E t s2 o) (l : SLe s1 s2) : Run K E t s1 o := fun σ H F fp e Ed q => h σ H F fp (e.le l) Ed q
/-- a, b = x, y (plain locals) -/
theorem run_par {i j : Nat} {d1 d2 : D} {ta : TA} (h : EvA K ta s [d1, d2] s1) : Run K E (tPar i j ta) s (.nx ((s1.set i (.dat d1)).set j (.dat d2))) := fun σ H F fp e Ed q =>
  h σ H F fp e _ fun vs H' F' fp' e' st a => by
    cases a with
    | cons a1 t1 => cases t1 with
      | cons a2 t2 => cases t2; exact ⟨_, _, rfl, q _ H' F' _ ((e'.set (i := i) (x := .dat d1) ⟨_, rfl, a1⟩).set (i := j) (x := .dat d2) ⟨_, rfl, a2⟩) ((st.trans Step.drop).trans Step.drop)⟩
theorem run_par3 {i j l : Nat} {d1 d2 d3 : D} {ta : TA} (h : EvA K ta s [d1, d2, d3] s1) : Run K E (tPar3 i j l ta) s (.nx (((s1.set i (.dat d1)).set j (.dat d2)).set l (.dat d3))) := fun σ H F fp e Ed q =>
  h σ H F fp e _ fun vs H' F' fp' e' st a => by
    cases a with
    | cons a1 t1 => cases t1 with
      | cons a2 t2 => cases t2 with
        | cons a3 t3 => cases t3; exact ⟨_, _, _, rfl, q _ H' F' _ (((e'.set (i := i) (x := .dat d1) ⟨_, rfl, a1⟩).set (i := j) (x := .dat d2) ⟨_, rfl, a2⟩).set (i := l) (x := .dat d3) ⟨_, rfl, a3⟩) (((st.trans Step.drop).trans Step.drop).trans Step.drop)⟩
/-! ### targets -/
def Tg (K : PySem.W.Frag) (g : TG) (s : S) (d : D) (s' : S) : Prop := ∀ σ H F fp v, EnvW K σ s H F fp → At K F v d → ∀ Q : L2.St → Hp → Prop, (∀ σ' fp', EnvW K σ' s' H F fp' → Step H F fp H F fp' → Q σ' H) → g v σ H Q
def Tgs (K : PySem.W.Frag) (g : TGs) (s : S) (ds : List D) (s' : S) : Prop := ∀ σ H F fp vs, EnvW K σ s H F fp → AtAll K F vs ds → ∀ Q : L2.St → Hp → Prop, (∀ σ' fp', EnvW K σ' s' H F fp' → Step H F fp H F fp' → Q σ' H) → g vs σ H Q
theorem tg_name {i : Nat} : Tg K (gName i) s d (s.set i (.dat d)) := fun σ H F fp v e a Q q => q _ _ (e.set (i := i) ⟨v, rfl, a⟩) Step.drop
theorem tg_nil : Tgs K gNil s [] s := fun σ H F fp vs e a Q q => by cases a; exact ⟨rfl, q σ fp e (Step.refl _ _ _)⟩
theorem tg_cons {g : TG} {gs : TGs} {ds : List D} (h1 : Tg K g s d s1) (h2 : Tgs K gs s1 ds s2) : Tgs K (gCons g gs) s (d :: ds) s2 := fun σ H F fp vs e a Q q => by
  cases a with
  | cons a1 t1 => exact ⟨_, _, rfl, h1 σ H F fp _ e a1 _ fun σ' fp' e' st => h2 σ' H F fp' _ e' t1 _ fun σ2 fp2 e2 st2 => q σ2 fp2 e2 (st.trans st2)⟩
theorem tg_tup {gs : TGs} {ds : List D} {n : Nat} (h : Tgs K gs s ds s') (hn : ds.length = n) : Tg K (gTup K n gs) s (.tuple ds) s' := fun σ H F fp v e a Q q => by
  cases a with
  | tup h1 h2 => exact ⟨_, _, rfl, e.ex.sqT h1, by rw [h2.length]; exact hn, h σ H F fp _ e h2 Q q⟩
theorem run_asgT {g : TG} (h : Ev K te s d s1) (hg : Tg K g s1 d s2) : Run K E (tAsg te g) s (.nx s2) := fun σ H F fp e Ed q =>
  h σ H F fp e _ fun v H' F' fp' e' st a => hg σ H' F' fp' v e' a _ fun σ2 fp2 e2 st2 => q σ2 H' F' fp2 e2 (st.trans st2)
/-! ### what is walked -/
def IsIt (K : PySem.W.Frag) (J : It) (F : Hp) (ds : List D) : Prop := ∀ F' H' (i : Nat), Ex F F' → Ex F' H' → (∀ d, ds[i]? = some d → J.go i H' ∧ ∀ x H2, J.yld i H' x H2 → ∃ F2, Grow F' H' F2 H2 ∧ At K F2 x d) ∧ (i = ds.length → J.stop i H')
def IterD (K : PySem.W.Frag) (wi : TI) (s : S) (ds : List D) (s1 : S) : Prop := ∀ σ H F fp, EnvW K σ s H F fp → ∀ R : It → Hp → Prop, (∀ J H1 F1 fp1, EnvW K σ s1 H1 F1 fp1 → Step H F fp H1 F1 fp1 → IsIt K J F1 ds → R J H1) → wi σ H R
theorem it_list {ds : List D} {tl : TE} (h : Ev K tl s (.list ds) s1) : IterD K (iList K tl) s ds s1 := fun σ H F fp e R r =>
  h σ H F fp e _ fun v H1 F1 fp1 e1 st1 a1 => by
    cases a1 with
    | @lst a vs _ ha hv =>
      refine ⟨a, rfl, ⟨vs, .inl (.inl (e1.ex _ _ ha))⟩, r _ H1 F1 fp1 e1 st1 fun F' H' i hF hH => ⟨fun d hd => ?_, fun hi => ?_⟩⟩
      · obtain ⟨x, hx, _⟩ := hv.get hd
        refine ⟨⟨vs, x, .inl (.inl (hH _ _ (hF _ _ ha))), hx⟩, fun y H2 hy => ?_⟩
        obtain ⟨rfl, hy⟩ := hy
        have hy := hy vs (.inl (.inl (hH _ _ (hF _ _ ha))))
        obtain ⟨d', hd', had⟩ := hv.getV hy
        rw [hd] at hd'
        cases hd'
        exact ⟨F', Grow.refl hH, had.ex hF⟩
      · exact ⟨vs, .inl (.inl (hH _ _ (hF _ _ ha))), by rw [hv.length]; exact Nat.le_of_eq hi.symm⟩
theorem it_tup {ds : List D} {tl : TE} (h : Ev K tl s (.tuple ds) s1) : IterD K (iTup K tl) s ds s1 := fun σ H F fp e R r =>
  h σ H F fp e _ fun v H1 F1 fp1 e1 st1 a1 => by
    cases a1 with
    | @tup a vs _ ha hv =>
      refine ⟨a, rfl, ⟨vs, e1.ex.sqT ha⟩, r _ H1 F1 fp1 e1 st1 fun F' H' i hF hH => ⟨fun d hd => ?_, fun hi => ?_⟩⟩
      · obtain ⟨x, hx, _⟩ := hv.get hd
        refine ⟨⟨vs, x, hH.sqT (hF.sqT ha), hx⟩, fun y H2 hy => ?_⟩
        obtain ⟨rfl, hy⟩ := hy
        have hy := hy vs (hH.sqT (hF.sqT ha))
        obtain ⟨d', hd', had⟩ := hv.getV hy
        rw [hd] at hd'
        cases hd'
        exact ⟨F', Grow.refl hH, had.ex hF⟩
      · exact ⟨vs, hH.sqT (hF.sqT ha), by rw [hv.length]; exact Nat.le_of_eq hi.symm⟩
/-- the ints lo, lo + 1, .. -/
def upTo (lo : Int) (n : Nat) : List D := (List.range n).map fun i => .int (lo + (i : Nat))
theorem upTo_get {lo : Int} {n i : Nat} {d : D} (h : (upTo lo n)[i]? = some d) : i < n ∧ d = .int (lo + i) := by
  unfold upTo at h
  rw [List.getElem?_map] at h
  cases q : (List.range n)[i]? with
  | none => rw [q] at h; cases h
  | some j =>
    obtain ⟨hl, hj⟩ := List.getElem?_eq_some_iff.mp q
    rw [List.length_range] at hl
    rw [q] at h
    simp at hj h
    subst hj
    exact ⟨hl, h.symm⟩
theorem upTo_len {lo : Int} {n : Nat} : (upTo lo n).length = n := by simp [upTo]
theorem isIt_rng {F : Hp} {lo : Int} {n : Nat} : IsIt K (Itr lo n) F (upTo lo n) := fun F' H' i hF hH => ⟨fun d hd => by
  obtain ⟨h1, rfl⟩ := upTo_get hd
  refine ⟨h1, fun x H2 hy => ?_⟩
  obtain ⟨rfl, rfl⟩ := hy
  exact ⟨F', Grow.refl hH, .int _⟩, fun h => by rw [upTo_len] at h; exact Nat.le_of_eq h.symm⟩
theorem it_rng1 {n : Int} {ta : TA} (h : EvA K ta s [.int n] s1) (hn : -(2 ^ 62) ≤ n ∧ n < 2 ^ 62) : IterD K (iRng1 ta) s (upTo 0 n.toNat) s1 := fun σ H F fp e R r =>
  h σ H F fp e _ fun vs H1 F1 fp1 e1 st1 a1 => by
    cases a1 with
    | cons x y => cases x; cases y; exact ⟨n, rfl, hn.1, hn.2, r _ H1 F1 fp1 e1 st1 isIt_rng⟩
theorem it_rng2 {m n : Int} {ta : TA} (h : EvA K ta s [.int m, .int n] s1) (hn : -(2 ^ 62) ≤ m ∧ m < 2 ^ 62 ∧ -(2 ^ 62) ≤ n ∧ n < 2 ^ 62) : IterD K (iRng2 ta) s (upTo m (n - m).toNat) s1 := fun σ H F fp e R r =>
  h σ H F fp e _ fun vs H1 F1 fp1 e1 st1 a1 => by
    cases a1 with
    | cons x y => cases x; cases y with
      | cons x y => cases x; cases y; exact ⟨m, n, rfl, hn, r _ H1 F1 fp1 e1 st1 isIt_rng⟩
/-! ### loops -/
/-- a loop's way out of its body -/
def Out.out : Out → Out
  | .bk s => .nx s
  | o => o
theorem out_ok {H F : Hp} {fp : Fp} {Ed : Ends} {N C : L2.St → Hp → Prop} {o : Out} (h : OutOk K E H F fp Ed o.out) (e : o.ends = true) : OutOk K E H F fp { Ed with nx := N, ct := C, bk := Ed.nx } o := by
  cases o with
  | nx s' => cases e
  | bk s' => exact h
  | rt d s' => exact h
  | ro r s' => exact h
  | ex C fl d s' => exact h
/-- m turns, then the end or a way out -/
theorem run_forG {ds : List D} {wi : TI} {g : TG} (f : Nat → S) (m : Nat) (hw : IterD K wi s ds s1) (h0 : SLe s1 (f 0)) (hm : m ≤ ds.length)
    (hs : ∀ i d, i < m → ds[i]? = some d → ∃ s2, Tg K g (f i) d s2 ∧ Run K E t s2 (.nx (f (i + 1))))
    (he : (m = ds.length ∧ o = .nx (f m)) ∨ ∃ d s2 o', ds[m]? = some d ∧ Tg K g (f m) d s2 ∧ Run K E t s2 o' ∧ o'.ends = true ∧ o = o'.out) : Run K E (tFor wi g t) s o := fun σ H F fp e Ed q =>
  hw σ H F fp e _ fun J H1 F1 fp1 e1 st1 hJ => by
    refine ⟨fun i k σ' H' => k = m - i ∧ i ≤ m ∧ ∃ F' fp', EnvW K σ' (f i) H' F' fp' ∧ Step H F fp H' F' fp' ∧ Ex F1 F', ⟨m, rfl, Nat.zero_le _, F1, fp1, e1.le h0, st1, Ex.refl F1⟩, ?_⟩
    rintro i k σ' H' ⟨rfl, hi, F', fp', e', st', hF⟩
    obtain ⟨hgo, hstop⟩ := hJ F' H' i hF e'.ex
    by_cases him : i < m
    · have hil : i < ds.length := by omega
      obtain ⟨d, hd⟩ : ∃ d, ds[i]? = some d := ⟨ds[i], by simp [hil]⟩
      obtain ⟨s2, hg, hr⟩ := hs i d him hd
      obtain ⟨g1, g2⟩ := hgo d hd
      refine .inr ⟨g1, fun σ3 H3 => ∃ F3 fp3, EnvW K σ3 (f (i + 1)) H3 F3 fp3 ∧ Step H F fp H3 F3 fp3 ∧ Ex F1 F3, fun σ3 H3 ⟨F3, fp3, a, b, c⟩ => ⟨m - (i + 1), by omega, rfl, by omega, F3, fp3, a, b, c⟩, fun x H2 hy => ?_⟩
      obtain ⟨F2, gr, ax⟩ := g2 x H2 hy
      have e2 := e'.grow gr
      have st2 := st'.trans (e'.growS gr)
      exact hg σ' H2 F2 fp' x e2 ax _ fun σ4 fp4 e4 st4 => hr σ4 H2 F2 fp4 e4 _ fun σ5 H5 F5 fp5 e5 st5 => ⟨F5, fp5, e5, (st2.trans st4).trans st5, (hF.trans gr.f).trans st5.ex⟩
    · have hie : i = m := by omega
      subst hie
      rcases he with ⟨he, rfl⟩ | ⟨d, s2, o', hd, hg, hr, hend, rfl⟩
      · exact .inl ⟨hstop (by omega), q σ' H' F' fp' e' st'⟩
      · obtain ⟨g1, g2⟩ := hgo d hd
        refine .inr ⟨g1, fun _ _ => False, fun _ _ z => z.elim, fun x H2 hy => ?_⟩
        obtain ⟨F2, gr, ax⟩ := g2 x H2 hy
        have e2 := e'.grow gr
        have st2 := st'.trans (e'.growS gr)
        exact hg σ' H2 F2 fp' x e2 ax _ fun σ4 fp4 e4 st4 => hr σ4 H2 F2 fp4 e4 _ (out_ok (q.step (st2.trans st4)) hend)
theorem run_for {ds : List D} {wi : TI} {g : TG} (f : Nat → S) (hw : IterD K wi s ds s1) (h0 : SLe s1 (f 0))
    (hs : ∀ i d, ds[i]? = some d → ∃ s2, Tg K g (f i) d s2 ∧ Run K E t s2 (.nx (f (i + 1)))) : Run K E (tFor wi g t) s (.nx (f ds.length)) :=
  run_forG f ds.length hw h0 (Nat.le_refl _) (fun i d _ h => hs i d h) (.inl ⟨rfl, rfl⟩)
/-- while: n turns, then the end or a way out -/
theorem run_whileG (f : Nat → S) (g : Nat → S) (m : Nat) (h0 : SLe s (f 0)) (hs : ∀ i, i < m → EvT K tt (f i) true (g i) ∧ Run K E t (g i) (.nx (f (i + 1))))
    (he : (EvT K tt (f m) false s1 ∧ o = .nx s1) ∨ ∃ o', EvT K tt (f m) true (g m) ∧ Run K E t (g m) o' ∧ o'.ends = true ∧ o = o'.out) : Run K E (tWhile tt t) s o := fun σ H F fp e Ed q => by
  refine ⟨fun k σ' H' => ∃ i, k = m - i ∧ i ≤ m ∧ ∃ F' fp', EnvW K σ' (f i) H' F' fp' ∧ Step H F fp H' F' fp', ⟨m, 0, rfl, Nat.zero_le _, F, fp, e.le h0, Step.refl _ _ _⟩, ?_⟩
  rintro k σ' H' ⟨i, rfl, hi, F', fp', e', st'⟩
  by_cases him : i < m
  · obtain ⟨h1, h2⟩ := hs i him
    refine h1 σ' H' F' fp' e' _ fun H1 F1 fp1 e1 st1 => ?_
    show ∃ N : L2.St → Hp → Prop, _
    exact ⟨fun σ3 H3 => ∃ F3 fp3, EnvW K σ3 (f (i + 1)) H3 F3 fp3 ∧ Step H F fp H3 F3 fp3, fun σ3 H3 ⟨F3, fp3, a, b⟩ => ⟨m - (i + 1), by omega, i + 1, rfl, by omega, F3, fp3, a, b⟩,
      h2 σ' H1 F1 fp1 e1 _ fun σ5 H5 F5 fp5 e5 st5 => ⟨F5, fp5, e5, (st'.trans st1).trans st5⟩⟩
  · have hie : i = m := by omega
    subst hie
    rcases he with ⟨h1, rfl⟩ | ⟨o', h1, h2, hend, rfl⟩
    · exact h1 σ' H' F' fp' e' _ fun H1 F1 fp1 e1 st1 => q σ' H1 F1 fp1 e1 (st'.trans st1)
    · refine h1 σ' H' F' fp' e' _ fun H1 F1 fp1 e1 st1 => ?_
      show ∃ N : L2.St → Hp → Prop, _
      exact ⟨fun _ _ => False, fun _ _ z => z.elim, h2 σ' H1 F1 fp1 e1 _ (out_ok (q.step (st'.trans st1)) hend)⟩
theorem run_while (f : Nat → S) (g : Nat → S) (m : Nat) (h0 : SLe s (f 0)) (hs : ∀ i, i < m → EvT K tt (f i) true (g i) ∧ Run K E t (g i) (.nx (f (i + 1)))) (he : EvT K tt (f m) false s1) : Run K E (tWhile tt t) s (.nx s1) :=
  run_whileG f g m h0 hs (.inl ⟨he, rfl⟩)
end
end DL

namespace DL
open PySem PySem.Spec PyProof.Rows L2
/-! ### comprehensions -/
theorem wipe_get : ∀ (vs : List Nat) (σ : L2.St) (i : Nat), (wipe σ vs)[i]? = if i ∈ vs then (if i < σ.length then some none else none) else σ[i]?
  | [], σ, i => by simp [wipe]
  | v :: vs, σ, i => by
    unfold wipe
    by_cases h : i = v
    · subst h
      by_cases hl : i < σ.length
      · rw [List.getElem?_set_self (by rw [wipe_length]; exact hl)]; simp [hl]
      · rw [List.getElem?_eq_none (by rw [List.length_set, wipe_length]; omega)]; simp [hl]
    · rw [List.getElem?_set_ne (Ne.symm h), wipe_get vs σ i]
      simp [h]
theorem wipe_wipe (σ : L2.St) (vs : List Nat) : wipe (wipe σ vs) vs = wipe σ vs := by
  apply List.ext_getElem?
  intro i
  rw [wipe_get, wipe_length, wipe_get]
  by_cases h : i ∈ vs <;> simp [h]
theorem wipe_set {σ : L2.St} {vs : List Nat} {j : Nat} {x : Option V} (h : j ∈ vs) : wipe (σ.set j x) vs = wipe σ vs := by
  apply List.ext_getElem?
  intro i
  rw [wipe_get, wipe_get, List.length_set]
  by_cases hi : i ∈ vs
  · simp [hi]
  · have : i ≠ j := fun z => hi (z ▸ h)
    simp [hi, List.getElem?_set_ne (Ne.symm this)]
def wipeL (l : List Sl) : List Nat → List Sl
  | [] => l
  | v :: vs => (wipeL l vs).set v .unk
def S.wipe (s : S) (vs : List Nat) : S := ⟨wipeL s.s vs, s.g⟩
theorem wipeL_length (l : List Sl) : ∀ vs : List Nat, (wipeL l vs).length = l.length
  | [] => rfl
  | v :: vs => by unfold wipeL; rw [List.length_set, wipeL_length l vs]
theorem wipeL_get : ∀ (vs : List Nat) (l : List Sl) (i : Nat), (wipeL l vs)[i]? = if i ∈ vs then (if i < l.length then some .unk else none) else l[i]?
  | [], l, i => by simp [wipeL]
  | v :: vs, l, i => by
    unfold wipeL
    by_cases h : i = v
    · subst h
      by_cases hl : i < l.length
      · rw [List.getElem?_set_self (by rw [wipeL_length]; exact hl)]; simp [hl]
      · rw [List.getElem?_eq_none (by rw [List.length_set, wipeL_length]; omega)]; simp [hl]
    · rw [List.getElem?_set_ne (Ne.symm h), wipeL_get vs l i]
      simp [h]
section
variable {K : PySem.W.Frag} {E : XK} {s s1 s2 s3 s' : S} {te ta tb : TE} {tt : TT} {d : D} {b : Bool} {σ : L2.St} {H F H' F' : Hp} {fp fp' : Fp}
theorem EnvW.wipe (e : EnvW K σ s H F fp) (vs : List Nat) : EnvW K (L2.wipe σ vs) (s.wipe vs) H F fp where
  ex := e.ex
  len := by rw [wipe_length, e.len]; exact (wipeL_length _ _).symm
  sl := fun i x h => by
    rw [show (s.wipe vs).s = wipeL s.s vs from rfl, wipeL_get] at h
    rw [wipe_get]
    by_cases hi : i ∈ vs
    · rw [if_pos hi] at h
      split at h
      · cases h; trivial
      · cases h
    · rw [if_neg hi] at h ⊢
      exact e.sl i x h
  tb := e.tb
  dj := e.dj
  nf := e.nf
  th := e.th
  nt := e.nt
/-- an untracked-by-us object at p (new since H1) is written -/
theorem mut_ext {p : Addr} {o : HO} {l : List V} (h : H p = some (.lst l)) : ExtKeep H (upd H p o) := fun b φ q => by
  rw [upd_ne fun z => by rw [z, h] at q; cases q]; exact q
theorem tabs_mut {T : List (Addr × Str)} {p : Addr} {o : HO} {l : List V} (t : LamX.Tabs T H) (h : H p = some (.lst l)) : LamX.Tabs T (upd H p o) := fun x hx => by
  obtain ⟨ps, h1, h2, h3⟩ := t x hx
  refine ⟨ps, by rw [upd_ne fun z => by rw [z, h] at h1; cases h1]; exact h1, h2, fun pos cv hc => ?_⟩
  obtain ⟨c, e1, e2⟩ := h3 pos cv hc
  exact ⟨c, e1, mut_ext h _ _ e2⟩
theorem EnvW.mut {p : Addr} {o : HO} {l : List V} (e : EnvW K σ s H F fp) (hl : H p = some (.lst l)) (h1 : F p = none) (h2 : ∀ i, ¬ fp i p) : EnvW K σ s (upd H p o) F fp where
  ex := fun a u q => by rw [upd_ne (ne_of_none q h1)]; exact e.ex a u q
  len := e.len
  sl := fun i x h => (e.sl i x h).mono (Ex.refl F) (fun b hb => upd_ne fun z => h2 _ (z ▸ hb)) (mut_ext hl)
  tb := tabs_mut e.tb hl
  dj := e.dj
  nf := e.nf
  th := fun i b h => by obtain ⟨u, q, n⟩ := e.th i b h; exact ⟨u, by rw [upd_ne fun z => h2 _ (z ▸ h)]; exact q, n⟩
  nt := e.nt
theorem Step.mut {p : Addr} {o : HO} (st : Step H F fp H' F' fp') (h : H p = none) : Step H F fp (upd H' p o) F' fp' :=
  ⟨st.ex, st.new, fun b u q x n => by rw [upd_ne (ne_of_none q h)]; exact st.keep b u q x n, st.fpn, fun b φ q => by rw [upd_ne (ne_of_none q h)]; exact st.ext b φ q⟩
def TgV (K : PySem.W.Frag) (vs : List Nat) (g : TG) (s : S) (d : D) (s' : S) : Prop := ∀ σ H F fp v, EnvW K σ s H F fp → At K F v d → ∀ Q : L2.St → Hp → Prop, (∀ σ' fp', EnvW K σ' s' H F fp' → Step H F fp H F fp' → wipe σ' vs = wipe σ vs → Q σ' H) → g v σ H Q
def TgVs (K : PySem.W.Frag) (vs : List Nat) (g : TGs) (s : S) (ds : List D) (s' : S) : Prop := ∀ σ H F fp us, EnvW K σ s H F fp → AtAll K F us ds → ∀ Q : L2.St → Hp → Prop, (∀ σ' fp', EnvW K σ' s' H F fp' → Step H F fp H F fp' → wipe σ' vs = wipe σ vs → Q σ' H) → g us σ H Q
variable {vs : List Nat}
theorem tv_name {i : Nat} (h : i ∈ vs) : TgV K vs (gName i) s d (s.set i (.dat d)) := fun σ H F fp v e a Q q => q _ _ (e.set (i := i) (x := .dat d) ⟨v, rfl, a⟩) Step.drop (wipe_set h)
theorem tv_nil : TgVs K vs gNil s [] s := fun σ H F fp us e a Q q => by cases a; exact ⟨rfl, q σ fp e (Step.refl _ _ _) rfl⟩
theorem tv_cons {g : TG} {gs : TGs} {ds : List D} (h1 : TgV K vs g s d s1) (h2 : TgVs K vs gs s1 ds s2) : TgVs K vs (gCons g gs) s (d :: ds) s2 := fun σ H F fp us e a Q q => by
  cases a with
  | cons a1 t1 => exact ⟨_, _, rfl, h1 σ H F fp _ e a1 _ fun σ' fp' e' st w1 => h2 σ' H F fp' _ e' t1 _ fun σ2 fp2 e2 st2 w2 => q σ2 fp2 e2 (st.trans st2) (w2.trans w1)⟩
theorem tv_tup {gs : TGs} {ds : List D} {n : Nat} (h : TgVs K vs gs s ds s') (hn : ds.length = n) : TgV K vs (gTup K n gs) s (.tuple ds) s' := fun σ H F fp v e a Q q => by
  cases a with
  | tup h1 h2 => exact ⟨_, _, rfl, e.ex.sqT h1, by rw [h2.length]; exact hn, h σ H F fp _ e h2 Q q⟩
/-- the list that a comprehension makes stands at p behind it -/
theorem lc_gen {ds : List D} {wi : TI} {g : TG} (f : Nat → S) (out : Nat → List D) (hw : IterD K wi s ds s1) (h0 : SLe (s1.wipe vs) (f 0)) (ho : out 0 = []) (hz : ds.length ≤ sizeLine)
    (hs : ∀ i d, ds[i]? = some d → ∃ s2 b s3, TgV K vs g (f i) d s2 ∧ EvT K tt s2 b s3 ∧ (b = true → ∃ y s4, Ev K te s3 y s4 ∧ SLe (s4.wipe vs) (f (i + 1)) ∧ out (i + 1) = out i ++ [y]) ∧ (b = false → SLe (s3.wipe vs) (f (i + 1)) ∧ out (i + 1) = out i))
    (e : EnvW K σ s H F fp) (Q : VK) (q : ∀ H1 F1 fp1 p H' F' fp' acc, EnvW K σ s1 H1 F1 fp1 → Step H F fp H1 F1 fp1 → H1 p = none → EnvW K (L2.wipe σ vs) (f ds.length) H' F' fp' → Step H1 F1 fp1 H' F' fp' → H' p = some (.lst acc) → AtAll K F' acc (out ds.length) → F' p = none → (∀ i, ¬ fp' i p) → Q (.ref p) H') : tLc wi g tt te vs σ H Q :=
  hw σ H F fp e _ fun J H1 F1 fp1 e1 st1 hJ p hp => by
    have e0 : EnvW K (L2.wipe σ vs) (f 0) (upd H1 p (.lst [])) F1 fp1 := (((e1.wipe vs).le h0).growH hp)
    have nfp : ∀ i, ¬ fp1 i p := fun i hi => (e1.th i p hi).ne hp rfl
    refine ⟨fun i k H' => k = ds.length - i ∧ i ≤ ds.length ∧ ∃ F' fp' acc, EnvW K (L2.wipe σ vs) (f i) H' F' fp' ∧ Step H1 F1 fp1 H' F' fp' ∧ H' p = some (.lst acc) ∧ AtAll K F' acc (out i) ∧ F' p = none ∧ (∀ i, ¬ fp' i p) ∧ acc.length ≤ i, ⟨ds.length, rfl, Nat.zero_le _, F1, fp1, [], e0, Step.growH hp, upd_same, by rw [ho]; exact .nil, e1.ex.un hp, nfp, Nat.zero_le _⟩, ?_⟩
    rintro i k H' ⟨rfl, hi, F', fp', acc, e', st', hacc, ha, hF, hfp, hlen⟩
    obtain ⟨hgo, hstop⟩ := hJ F' H' i st'.ex e'.ex
    by_cases hil : i < ds.length
    · obtain ⟨d, hd⟩ : ∃ d, ds[i]? = some d := ⟨ds[i], by simp [hil]⟩
      obtain ⟨s2, b, s3, hg, ht, hy, hn⟩ := hs i d hd
      obtain ⟨g1, g2⟩ := hgo d hd
      refine .inr ⟨g1, fun H3 => ∃ F3 fp3 acc, EnvW K (L2.wipe σ vs) (f (i + 1)) H3 F3 fp3 ∧ Step H1 F1 fp1 H3 F3 fp3 ∧ H3 p = some (.lst acc) ∧ AtAll K F3 acc (out (i + 1)) ∧ F3 p = none ∧ (∀ i, ¬ fp3 i p) ∧ acc.length ≤ i + 1, fun H3 ⟨F3, fp3, acc, h1, h2, h3, h4, h5, h6, h7⟩ => ⟨ds.length - (i + 1), by omega, rfl, by omega, F3, fp3, acc, h1, h2, h3, h4, h5, h6, h7⟩, fun x H2 hyl => ?_⟩
      obtain ⟨F2, gr, ax⟩ := g2 x H2 hyl
      have e2 := e'.grow gr
      have st2 := st'.trans (e'.growS gr)
      have hF2 : F2 p = none := gr.new p hF ⟨_, hacc⟩
      have hH2 : H2 p = some (.lst acc) := gr.h _ _ hacc
      refine hg _ H2 F2 fp' x e2 ax _ fun σ4 fp4 e4 st4 w4 => ⟨w4.trans (wipe_wipe σ vs), ?_⟩
      have keepP : ∀ {Ha Fa fa Hb Fb fb}, Step Ha Fa fa Hb Fb fb → Ha p = some (.lst acc) → Fa p = none → (∀ i, ¬ fa i p) → Hb p = some (.lst acc) ∧ Fb p = none ∧ ∀ i, ¬ fb i p := fun {Ha Fa fa Hb Fb fb} st a1 a2 a3 =>
        ⟨st.keep p _ a1 (by intro ps z; cases z) a3, st.new p a2 ⟨_, a1, by intro ps z; cases z⟩ a3, fun i hi => by
          rcases st.fpn i p hi with ⟨j, hj⟩ | h
          · exact a3 j hj
          · exact h ⟨_, a1, by intro ps z; cases z⟩⟩
      obtain ⟨k1, k2, k3⟩ := keepP st4 hH2 hF2 hfp
      refine ht σ4 H2 F2 fp4 e4 _ fun H5 F5 fp5 e5 st5 => ?_
      obtain ⟨l1, l2, l3⟩ := keepP st5 k1 k2 k3
      cases b with
      | true =>
        show te σ4 H5 _
        obtain ⟨y, s4, hye, hle, hout⟩ := hy rfl
        refine hye σ4 H5 F5 fp5 e5 _ fun v H6 F6 fp6 e6 st6 a6 => ?_
        obtain ⟨m1, m2, m3⟩ := keepP st6 l1 l2 l3
        refine ⟨acc, m1, by omega, F6, fp6, acc ++ [v], ?_, ?_, upd_same, ?_, m2, m3, by simp; omega⟩
        · have z := (e6.wipe vs).le hle
          rw [w4, wipe_wipe] at z
          exact z.mut m1 m2 m3
        · exact (((st2.trans st4).trans st5).trans st6).mut hp
        · rw [hout]
          exact (ha.ex ((gr.f.trans st4.ex).trans (st5.ex.trans st6.ex))).snoc a6
      | false =>
        obtain ⟨hle, hout⟩ := hn rfl
        show ∃ F3 fp3 acc, _
        refine ⟨F5, fp5, acc, ?_, (st2.trans st4).trans st5, l1, ?_, l2, l3, by omega⟩
        · have z := (e5.wipe vs).le hle
          rw [w4, wipe_wipe] at z
          exact z
        · rw [hout]
          exact ha.ex ((gr.f.trans st4.ex).trans st5.ex)
    · have hie : i = ds.length := by omega
      subst hie
      exact .inl ⟨hstop rfl, q H1 F1 fp1 p H' F' fp' acc e1 st1 hp e' st' hacc ha hF hfp⟩
/-- what comes back behind a comprehension: its own names are as before -/
def Back (vs : List Nat) (s1 sn s' : S) : Prop := s'.s.length = s1.s.length ∧ (∀ (i : Nat) (x : Sl), s'.s[i]? = some x → (i ∉ vs ∧ sn.s[i]? = some x) ∨ x = .unk ∨ (i ∈ vs ∧ s1.s[i]? = some x ∧ ∃ d, x = .dat d)) ∧ s'.g = sn.g
theorem EnvW.back {H1 F1 : Hp} {fp1 : Fp} {sn : S} (e1 : EnvW K σ s1 H1 F1 fp1) (hF : Ex F1 F) (e : EnvW K (L2.wipe σ vs) sn H F fp) (bk : Back vs s1 sn s') : EnvW K σ s' H F fp where
  ex := e.ex
  len := e1.len.trans bk.1.symm
  sl := fun i x h => by
    rcases bk.2.1 i x h with ⟨hi, q⟩ | rfl | ⟨_, q, d, rfl⟩
    · have z := e.sl i x q
      rw [wipe_get, if_neg hi] at z
      exact z
    · trivial
    · obtain ⟨v, h1, h2⟩ := e1.sl i _ q
      exact ⟨v, h1, h2.ex hF⟩
  tb := by rw [bk.2.2]; exact e.tb
  dj := e.dj
  nf := e.nf
  th := e.th
  nt := e.nt
theorem ev_lcG {ds : List D} {wi : TI} {g : TG} (f : Nat → S) (out : Nat → List D) (hw : IterD K wi s ds s1) (h0 : SLe (s1.wipe vs) (f 0)) (ho : out 0 = []) (hz : ds.length ≤ sizeLine)
    (hs : ∀ i d, ds[i]? = some d → ∃ s2 b s3, TgV K vs g (f i) d s2 ∧ EvT K tt s2 b s3 ∧ (b = true → ∃ y s4, Ev K te s3 y s4 ∧ SLe (s4.wipe vs) (f (i + 1)) ∧ out (i + 1) = out i ++ [y]) ∧ (b = false → SLe (s3.wipe vs) (f (i + 1)) ∧ out (i + 1) = out i))
    (bk : Back vs s1 (f ds.length) s') : Ev K (tLc wi g tt te vs) s (.list (out ds.length)) s' := fun σ H F fp e Q q =>
  lc_gen f out hw h0 ho hz hs e Q fun H1 F1 fp1 p H' F' fp' acc e1 st1 hp e' st' hacc ha hF hfp => by
    have eF : Ex F' (upd F' p (.lst acc)) := Ex.new hF
    have e2 : EnvW K σ s' H' F' fp' := e1.back st'.ex e' bk
    refine q (.ref p) H' (upd F' p (.lst acc)) fp' ⟨fun a u z => ?_, e2.len, fun i x h => (e2.sl i x h).mono eF (fun _ _ => rfl) (fun _ _ h => h), e2.tb, e2.dj, fun i b h => ?_, e2.th, fun b o z => ?_⟩
      ⟨(st1.trans st').ex.trans eF, fun b h1 h2 h3 => ?_, (st1.trans st').keep, (st1.trans st').fpn, (st1.trans st').ext⟩ (.lst upd_same (ha.ex eF))
    · by_cases y : a = p
      · subst y; rw [upd_same] at z; cases z; exact hacc
      · rw [upd_ne y] at z; exact e2.ex a u z
    · rw [upd_ne (fun (z : b = p) => hfp i (z ▸ h))]; exact e2.nf i b h
    · by_cases y : b = p
      · subst y; rw [upd_same] at z; cases z; intro ps w; cases w
      · rw [upd_ne y] at z; exact e2.nt b o z
    · have : b ≠ p := fun z => by
        subst z
        exact (st1.live h2 h3).ne hp rfl
      rw [upd_ne this]
      exact (st1.trans st').new b h1 h2 h3
theorem eo_lcG {ds : List D} {wi : TI} {g : TG} (f : Nat → S) (out : Nat → List D) (hw : IterD K wi s ds s1) (h0 : SLe (s1.wipe vs) (f 0)) (ho : out 0 = []) (hz : ds.length ≤ sizeLine)
    (hs : ∀ i d, ds[i]? = some d → ∃ s2 b s3, TgV K vs g (f i) d s2 ∧ EvT K tt s2 b s3 ∧ (b = true → ∃ y s4, Ev K te s3 y s4 ∧ SLe (s4.wipe vs) (f (i + 1)) ∧ out (i + 1) = out i ++ [y]) ∧ (b = false → SLe (s3.wipe vs) (f (i + 1)) ∧ out (i + 1) = out i))
    (bk : Back vs s1 (f ds.length) s') : EvO K (tLc wi g tt te vs) s (lstR K none (out ds.length)) s' := fun σ H F fp e Q q =>
  lc_gen f out hw h0 ho hz hs e Q fun H1 F1 fp1 p H' F' fp' acc e1 st1 hp e' st' hacc ha hF hfp => by
    refine q (.ref p) H' F' fp' (fun b => b = p) (e1.back st'.ex e' bk) (st1.trans st') ⟨p, acc, rfl, (fun _ z => nomatch z), fun _ => Iff.rfl, hacc, ha⟩ ⟨fun b h => h ▸ hF, fun b i h1 h2 => hfp i (h1 ▸ h2), fun b h => ⟨_, h ▸ hacc, by intro ps z; cases z⟩, fun b h => ?_⟩
    subst h
    by_cases y : ∃ j, fp j b
    · exact .inl y
    · exact .inr fun l => (st1.live l fun i hi => y ⟨i, hi⟩).ne hp rfl
/-- none of the slots vs holds an owned thing -/
def NoRes (s : S) (vs : List Nat) : Prop := ∀ (i : Nat) (x : Sl), i ∈ vs → s.s[i]? = some x → x = .unk ∨ ∃ d, x = .dat d
theorem back_same (h : NoRes s1 vs) : Back vs s1 (s1.wipe vs) s1 := ⟨rfl, fun i x q => by
  by_cases hi : i ∈ vs
  · rcases h i x hi q with r | r
    · exact .inr (.inl r)
    · exact .inr (.inr ⟨hi, q, r⟩)
  · refine .inl ⟨hi, ?_⟩
    rw [show (s1.wipe vs).s = wipeL s1.s vs from rfl, wipeL_get, if_neg hi]
    exact q, rfl⟩
/-- nothing but the list comes of it -/
theorem ev_lc {ds : List D} {wi : TI} {g : TG} (p : D → Bool) (y : D → D) (hw : IterD K wi s ds s1) (hz : ds.length ≤ sizeLine) (hr : NoRes s1 vs)
    (hs : ∀ d, d ∈ ds → ∃ s2, TgV K vs g (s1.wipe vs) d s2 ∧ SLe (s2.wipe vs) (s1.wipe vs) ∧ EvT K tt s2 (p d) s2 ∧ (p d = true → Ev K te s2 (y d) s2)) : Ev K (tLc wi g tt te vs) s (.list ((ds.filter p).map y)) s1 := by
  have := ev_lcG (K := K) (te := te) (tt := tt) (g := g) (vs := vs) (s' := s1) (fun _ => s1.wipe vs) (fun i => ((ds.take i).filter p).map y) hw (SLe.refl _) (by simp) hz (fun i d hd => ?_) (back_same hr)
  · simpa using this
  · obtain ⟨s2, h1, h2, h3, h4⟩ := hs d (List.mem_of_getElem? hd)
    have tk : ds.take (i + 1) = ds.take i ++ [d] := by rw [List.take_add_one, hd]; rfl
    refine ⟨s2, p d, s2, h1, h3, fun hb => ⟨y d, s2, h4 hb, h2, ?_⟩, fun hb => ⟨h2, ?_⟩⟩
    · simp [tk, List.filter_append, hb]
    · simp [tk, List.filter_append, hb]
theorem eo_lc {ds : List D} {wi : TI} {g : TG} (p : D → Bool) (y : D → D) (hw : IterD K wi s ds s1) (hz : ds.length ≤ sizeLine) (hr : NoRes s1 vs)
    (hs : ∀ d, d ∈ ds → ∃ s2, TgV K vs g (s1.wipe vs) d s2 ∧ SLe (s2.wipe vs) (s1.wipe vs) ∧ EvT K tt s2 (p d) s2 ∧ (p d = true → Ev K te s2 (y d) s2)) : EvO K (tLc wi g tt te vs) s (lstR K none ((ds.filter p).map y)) s1 := by
  have := eo_lcG (K := K) (te := te) (tt := tt) (g := g) (vs := vs) (s' := s1) (fun _ => s1.wipe vs) (fun i => ((ds.take i).filter p).map y) hw (SLe.refl _) (by simp) hz (fun i d hd => ?_) (back_same hr)
  · simpa using this
  · obtain ⟨s2, h1, h2, h3, h4⟩ := hs d (List.mem_of_getElem? hd)
    have tk : ds.take (i + 1) = ds.take i ++ [d] := by rw [List.take_add_one, hd]; rfl
    refine ⟨s2, p d, s2, h1, h3, fun hb => ⟨y d, s2, h4 hb, h2, ?_⟩, fun hb => ⟨h2, ?_⟩⟩
    · simp [tk, List.filter_append, hb]
    · simp [tk, List.filter_append, hb]
theorem et_yes : EvT K tYes s true s := fun σ H F fp e Q q => q H F fp e (Step.refl _ _ _)
end
end DL

namespace DL
open PySem PySem.Spec PyProof.Rows L2
/-! ### functions: R tells what comes of what -/
def FOk (K : PySem.W.Frag) (E : XK) (σ : L2.St) (H F : Hp) (fp : Fp) (Q : VK) : Out → Prop
  | .rt d s' => ∀ v H' F' fp', EnvW K σ s' H' F' fp' → Step H F fp H' F' fp' → At K F' v d → Q v H'
  | .ro r s' => ∀ v H' F' fp' P, EnvW K σ s' H' F' fp' → Step H F fp H' F' fp' → r.ok F' H' P (some (some v)) → Own H fp H' F' fp' P → Q v H'
  | .ex C fl d s' => ∀ dd v H' F' fp', EnvW K σ s' H' F' fp' → Step H F fp H' F' fp' → F' dd = some (.xd [(fl, v)]) → At K F' v d → E (.ref C) (some dd) H'
  | _ => False
abbrev FR := S → Out → Prop
def spF (K : PySem.W.Frag) (R : FR) : Sp := fun vs H Q E => ∃ s F fp o, EnvW K (vs.map some) s H F fp ∧ R s o ∧ FOk K E (vs.map some) H F fp Q o
/-- an owned thing that is told by its value -/
def Pin (r : Rs) (v : V) : Prop := ∀ {F H : Hp} {P : Addr → Prop} {sv : Option (Option V)}, r.ok F H P sv → r.ok F H P (some (some v))
theorem pin_lst {K : PySem.W.Frag} {v : V} {ds : List D} : Pin (lstR K (some v) ds) v := fun {F H P sv} ⟨a, vs, h1, h2, h3, h4, h5⟩ => ⟨a, vs, by rw [h2 v rfl], h2, h3, h4, h5⟩
section
variable {K : PySem.W.Frag} {E : XK} {s s1 s2 s' : S} {te ta tb : TE} {d : D} {σ : L2.St} {H F H' F' H1 F1 : Hp} {fp fp' fp1 fpc fpc' : Fp}
/-- the state at a def's entry: its other names hold nothing -/
def S.more (s : S) (m : Nat) : S := ⟨s.s ++ List.replicate m .unk, s.g⟩
theorem EnvW.enter {N : List Str} {vs : List V} (e : EnvW K (vs.map some) s H F fp) (hl : vs.length ≤ N.length) : EnvW K (L2.start N vs) (s.more (N.length - vs.length)) H F fp where
  ex := e.ex
  len := by
    have := e.len
    simp only [List.length_map] at this
    simp [L2.start, S.more, this]
  sl := fun i x h => by
    have hlen := e.len
    simp only [List.length_map] at hlen
    by_cases hi : i < s.s.length
    · have h' : s.s[i]? = some x := by
        rw [← h]; exact (List.getElem?_append_left hi).symm
      have z := e.sl i x h'
      have : (L2.start N vs)[i]? = (vs.map some)[i]? := by
        unfold L2.start
        rw [List.getElem?_append_left (by simp; omega)]
      rw [this]; exact z
    · have h' : x = .unk := by
        rw [show (s.more (N.length - vs.length)).s = s.s ++ List.replicate (N.length - vs.length) .unk from rfl, List.getElem?_append_right (by omega)] at h
        have := List.mem_of_getElem? h
        exact (List.mem_replicate.mp this).2
      subst h'; trivial
  tb := e.tb
  dj := e.dj
  nf := e.nf
  th := e.th
  nt := e.nt
/-- what stands behind a body, as its caller sees it -/
structure Leave (vs : List V) (s0 s1 s' : S) : Prop where
  len : s'.s.length = s0.s.length
  sl : ∀ (i : Nat) (x : Sl), s'.s[i]? = some x → x = .unk ∨ (∃ d, x = .dat d ∧ s0.s[i]? = some x) ∨ ∃ r v, x = .res r ∧ s1.s[i]? = some x ∧ vs[i]? = some v ∧ Pin r v
  g : s'.g = s1.g
theorem EnvW.leave {vs : List V} (e0 : EnvW K (vs.map some) s H F fp) (l : Leave vs s s1 s') (e : EnvW K σ s1 H' F' fp') (hF : Ex F F') : EnvW K (vs.map some) s' H' F' fp' where
  ex := e.ex
  len := e0.len.trans l.len.symm
  sl := fun i x h => by
    rcases l.sl i x h with rfl | ⟨d, rfl, h0⟩ | ⟨r, v, rfl, h1, hv, hp⟩
    · trivial
    · obtain ⟨v, h1, h2⟩ := e0.sl i _ h0
      exact ⟨v, h1, h2.ex hF⟩
    · have z : (vs.map some)[i]? = some (some v) := by rw [List.getElem?_map, hv]; rfl
      rw [z]
      exact hp (e.sl i _ h1)
  tb := by rw [l.g]; exact e.tb
  dj := e.dj
  nf := e.nf
  th := e.th
  nt := e.nt
/-- the outcome of a body as its caller sees it -/
inductive Ret (vs : List V) (s0 : S) : Out → Out → Prop
  | nx {s1 s' : S} : Leave vs s0 s1 s' → Ret vs s0 (.nx s1) (.rt .none s')
  | rt {d : D} {s1 s' : S} : Leave vs s0 s1 s' → Ret vs s0 (.rt d s1) (.rt d s')
  | ro {r : Rs} {s1 s' : S} : Leave vs s0 s1 s' → Ret vs s0 (.ro r s1) (.ro r s')
  | ex {C : Addr} {fl : Str} {d : D} {s1 s' : S} : Leave vs s0 s1 s' → Ret vs s0 (.ex C fl d s1) (.ex C fl d s')
/-- a body that runs keeps its promise -/
theorem run_body {N : List Str} {vs : List V} {t : TS} {R : FR} {Q : VK} (hl : vs.length ≤ N.length) (h : spF K R vs H Q E)
    (hr : ∀ s o, R s o → s.s.length = vs.length → (∀ F fp, EnvW K (vs.map some) s H F fp → ∃ o1, Run K E t (s.more (N.length - vs.length)) o1 ∧ Ret vs s o1 o)) : t { nx := fun _ H' => Q .non H', rt := Q } (L2.start N vs) H := by
  obtain ⟨s, F, fp, o, e, hR, hq⟩ := h
  have hlen : s.s.length = vs.length := by have := e.len; simp at this; exact this.symm
  obtain ⟨o1, h1, h2⟩ := hr s o hR hlen F fp e
  refine h1 _ H F fp (e.enter hl) _ ?_
  cases h2 with
  | nx l => exact fun σ' H' F' fp' e' st => hq .non H' F' fp' (e.leave l e' st.ex) st .non
  | rt l => exact fun σ' v H' F' fp' e' st a => hq v H' F' fp' (e.leave l e' st.ex) st a
  | ro l => exact fun σ' v H' F' fp' P e' st a o => hq v H' F' fp' P (e.leave l e' st.ex) st a o
  | ex l => exact fun σ' dd v H' F' fp' e' st a b => hq dd v H' F' fp' (e.leave l e' st.ex) st a b
/-- data alone -/
theorem leave_dat {vs : List V} {ds : List D} {g : List (Addr × Str)} {s1 : S} (hg : s1.g = g) : Leave vs ⟨ds.map .dat, g⟩ s1 ⟨ds.map .dat, g⟩ := ⟨rfl, fun i x h => .inr (.inl (by
  have hx : ∃ d, x = .dat d := by
    rw [List.getElem?_map] at h
    cases q : ds[i]? with
    | none => rw [q] at h; cases h
    | some d => rw [q] at h; exact ⟨d, (Option.some.inj h).symm⟩
  obtain ⟨d, rfl⟩ := hx
  exact ⟨d, rfl, h⟩)), hg.symm⟩
/-! ### the frame around a call -/
theorem frame {J : Ix → Prop} [DecidablePred J] {σc : L2.St} {sc' : S} (ρ : Ix → Ix) (e1 : EnvW K σ s1 H1 F1 fp1) (hρ : ∀ j k, J j → J k → ρ j = ρ k → j = k) (hP : ∀ i b, fpc i b → ∃ j, J j ∧ fp1 j b) (ec : EnvW K σc sc' H' F' fpc') (st : Step H1 F1 fpc H' F' fpc')
    (hlen : s2.s.length = s1.s.length) (hs : ∀ (i : Nat) (x : Sl), s2.s[i]? = some x → (J (.inl i) → SlOk K F' H' (fpc' (ρ (.inl i))) σ[i]? x) ∧ (¬ J (.inl i) → s1.s[i]? = some x))
    (hg : s2.g = sc'.g) :
    EnvW K σ s2 H' F' (fun j => if J j then fpc' (ρ j) else fp1 j) ∧ Step H1 F1 fp1 H' F' (fun j => if J j then fpc' (ρ j) else fp1 j) := by
  have notc : ∀ j b, ¬ J j → fp1 j b → ∀ i, ¬ fpc i b := fun j b hj hb i hi => by
    obtain ⟨k, hk, hkb⟩ := hP i b hi
    exact e1.dj j k b (fun z => hj (z ▸ hk)) hb hkb
  have keep : ∀ j b, ¬ J j → fp1 j b → H' b = H1 b := fun j b hj hb => by
    obtain ⟨o, q, n⟩ := e1.th j b hb
    rw [q, st.keep b o q n (notc j b hj hb)]
  have nodj : ∀ j b k, ¬ J j → fp1 j b → ¬ fpc' k b := fun j b k hj hb hk => by
    rcases st.fpn k b hk with ⟨m, hm⟩ | h
    · exact notc j b hj hb m hm
    · exact h (e1.th j b hb)
  refine ⟨⟨ec.ex, e1.len.trans hlen.symm, fun i x h => ?_, by rw [hg]; exact ec.tb, fun j k b hjk h1 h2 => ?_, fun j b h => ?_, fun j b h => ?_, ec.nt⟩, ⟨st.ex, fun b h1 h2 h3 => st.new b h1 h2 fun i hi => ?_, fun b o h1 n h2 => st.keep b o h1 n fun i hi => ?_, fun j b h => ?_, st.ext⟩⟩
  · by_cases hj : J (.inl i)
    · simp only [hj, if_true]; exact (hs i x h).1 hj
    · simp only [hj, if_false]
      exact (e1.sl i x ((hs i x h).2 hj)).mono st.ex (fun b hb => keep _ b hj hb) st.ext
  · by_cases hj : J j <;> by_cases hk : J k <;> simp only [hj, hk, if_true, if_false] at h1 h2
    · exact ec.dj _ _ b (fun z => hjk (hρ j k hj hk z)) h1 h2
    · exact nodj k b _ hk h2 h1
    · exact nodj j b _ hj h1 h2
    · exact e1.dj j k b hjk h1 h2
  · by_cases hj : J j <;> simp only [hj, if_true, if_false] at h
    · exact ec.nf _ b h
    · exact st.new b (e1.nf j b h) (e1.th j b h) (notc j b hj h)
  · by_cases hj : J j <;> simp only [hj, if_true, if_false] at h
    · exact ec.th _ b h
    · exact st.live (e1.th j b h) (notc j b hj h)
  · obtain ⟨j, _, hb⟩ := hP i b hi; exact h3 j hb
  · obtain ⟨j, _, hb⟩ := hP i b hi; exact h2 j hb
  · by_cases hj : J j <;> simp only [hj, if_true, if_false] at h
    · rcases st.fpn _ b h with ⟨i, hi⟩ | h
      · obtain ⟨k, _, hk⟩ := hP i b hi; exact .inl ⟨k, hk⟩
      · exact .inr h
    · exact .inl ⟨j, h⟩
abbrev noF : Fp := fun _ _ => False
theorem env_dat {vs : List V} {ds : List D} (e1 : EnvW K σ s1 H F fp1) (a : AtAll K F vs ds) : EnvW K (vs.map some) ⟨ds.map .dat, s1.g⟩ H F noF where
  ex := e1.ex
  len := by simp [a.length]
  sl := fun i x h => by
    rw [List.getElem?_map] at h
    cases q : ds[i]? with
    | none => rw [q] at h; cases h
    | some d =>
      rw [q] at h
      obtain ⟨v, hv, hd⟩ := a.get q
      cases h
      exact ⟨v, by rw [List.getElem?_map, hv]; rfl, hd⟩
  tb := e1.tb
  dj := fun _ _ _ _ h => h.elim
  nf := fun _ _ h => h.elim
  th := fun _ _ h => h.elim
  nt := e1.nt
/-! ### calls with data -/
theorem frame0 {σc : L2.St} {sc' : S} (e1 : EnvW K σ s1 H1 F1 fp1) (ec : EnvW K σc sc' H' F' fpc') (st : Step H1 F1 noF H' F' fpc') (hg : s1.g = sc'.g) : EnvW K σ s1 H' F' fp1 ∧ Step H1 F1 fp1 H' F' fp1 := by
  have h := frame (J := fun _ => False) (fun j => j) (s2 := s1) e1 (fun _ _ z => z.elim) (fun _ _ h => h.elim) ec st rfl (fun i x h => ⟨fun z => z.elim, fun _ => h⟩) hg
  simpa using h
theorem ev_call {R : FR} {ta : TA} {ds : List D} (ha : EvA K ta s ds s1) (hR : R ⟨ds.map .dat, s1.g⟩ (.rt d ⟨ds.map .dat, s1.g⟩)) : Ev K (tCall (spF K R) [] E ta) s d s1 := fun σ H F fp e Q q =>
  ha σ H F fp e _ fun vs H1 F1 fp1 e1 st1 a1 => by
    rw [List.append_nil]
    refine ⟨_, F1, noF, _, env_dat e1 a1, hR, fun v H' F' fp' e' st a => ?_⟩
    obtain ⟨e2, st2⟩ := frame0 e1 e' st rfl
    exact q v H' F' fp1 e2 (st1.trans st2) a
theorem eo_call {R : FR} {ta : TA} {ds : List D} {r : Rs} (ha : EvA K ta s ds s1) (hR : R ⟨ds.map .dat, s1.g⟩ (.ro r ⟨ds.map .dat, s1.g⟩)) : EvO K (tCall (spF K R) [] E ta) s r s1 := fun σ H F fp e Q q =>
  ha σ H F fp e _ fun vs H1 F1 fp1 e1 st1 a1 => by
    rw [List.append_nil]
    refine ⟨_, F1, noF, _, env_dat e1 a1, hR, fun v H' F' fp' P e' st a o => ?_⟩
    obtain ⟨e2, st2⟩ := frame0 e1 e' st rfl
    refine q v H' F' fp1 P e2 (st1.trans st2) a ⟨o.nf, fun b i hb hi => ?_, o.th, fun b hb => ?_⟩
    · rcases o.new b hb with ⟨j, hj⟩ | hn
      · exact hj
      · exact hn (e1.th i b hi)
    · rcases o.new b hb with ⟨j, hj⟩ | hn
      · exact hj.elim
      · by_cases y : ∃ j, fp j b
        · exact .inl y
        · exact .inr fun l => hn (st1.live l fun i hi => y ⟨i, hi⟩)
/-- by keywords -/
theorem ev_callK {R : FR} {ta tk : TA} {gV : List V → List V → List V} {ds es as : List D} (ha : EvA K ta s ds s1) (hk : EvA K tk s1 es s2) (hg : ∀ (F : Hp) vs zs, AtAll K F vs ds → AtAll K F zs es → AtAll K F (gV vs zs) as) (hR : R ⟨as.map .dat, s2.g⟩ (.rt d ⟨as.map .dat, s2.g⟩)) : Ev K (tCallK (spF K R) gV E ta tk) s d s2 := fun σ H F fp e Q q =>
  ha σ H F fp e _ fun vs H1 F1 fp1 e1 st1 a1 => hk σ H1 F1 fp1 e1 _ fun zs H2 F2 fp2 e2 st2 a2 => by
    refine ⟨_, F2, noF, _, env_dat e2 (hg F2 vs zs (a1.ex st2.ex) a2), hR, fun v H' F' fp' e' st a => ?_⟩
    obtain ⟨e3, st3⟩ := frame0 e2 e' st rfl
    exact q v H' F' fp2 e3 ((st1.trans st2).trans st3) a
/-- a call that raises -/
def EvR (K : PySem.W.Frag) (E : XK) (te : TE) (s : S) (C : Addr) (fl : Str) (d : D) (s' : S) : Prop := ∀ σ H F fp, EnvW K σ s H F fp → ∀ Q : VK, (∀ dd v H' F' fp', EnvW K σ s' H' F' fp' → Step H F fp H' F' fp' → F' dd = some (.xd [(fl, v)]) → At K F' v d → E (.ref C) (some dd) H') → te σ H Q
theorem er_call {R : FR} {ta : TA} {ds : List D} {C : Addr} {fl : Str} (ha : EvA K ta s ds s1) (hR : R ⟨ds.map .dat, s1.g⟩ (.ex C fl d ⟨ds.map .dat, s1.g⟩)) : EvR K E (tCall (spF K R) [] E ta) s C fl d s1 := fun σ H F fp e Q q =>
  ha σ H F fp e _ fun vs H1 F1 fp1 e1 st1 a1 => by
    rw [List.append_nil]
    refine ⟨_, F1, noF, _, env_dat e1 a1, hR, fun dd v H' F' fp' e' st a b => ?_⟩
    obtain ⟨e2, st2⟩ := frame0 e1 e' st rfl
    exact q dd v H' F' fp1 e2 (st1.trans st2) a b
theorem run_dropX {C : Addr} {fl : Str} (h : EvR K E te s C fl d s1) : Run K E (tDrop te) s (.ex C fl d s1) := fun σ H F fp e Ed q => h σ H F fp e _ fun dd v H' F' fp' e' st a b => q σ dd v H' F' fp' e' st a b
theorem run_retX {C : Addr} {fl : Str} (h : EvR K E te s C fl d s1) : Run K E (tRet te) s (.ex C fl d s1) := fun σ H F fp e Ed q => h σ H F fp e _ fun dd v H' F' fp' e' st a b => q σ dd v H' F' fp' e' st a b
/-- raise X(e), the wish E of the def -/
theorem run_raise {C : Addr} {fl : Str} {W : WX} {ta : TA} (h : EvA K ta s [d] s1) (hW : ∀ cls dd σ H, E cls dd H → W cls dd σ H) : Run K E (BX.tRaiseX C fl W ta) s (.ex C fl d s1) := fun σ H F fp e Ed q =>
  h σ H F fp e _ fun vs H1 F1 fp1 e1 st1 a1 => by
    cases a1 with
    | @cons v _ _ _ x y =>
      cases y
      refine ⟨v, rfl, fun dd hd => ?_⟩
      have g : Grow F1 H1 (upd F1 dd (.xd [(fl, v)])) (upd H1 dd (.xd [(fl, v)])) := Grow.laid e1.ex hd
      exact hW _ _ _ _ (q σ dd v _ _ fp1 (e1.grow g) (st1.trans (e1.growS g)) upd_same (x.ex g.f))
/-! ### the first argument an owned list -/
theorem callL {R : FR} {tr : TA} {ds : List D} {i : Nat} {ov ov' : Option V} {es es1 : List D} {o : V → Out} {Q : VK} (e : EnvW K σ s H F fp) (hi : s.s[i]? = some (.res (lstR K ov es))) (ha : EvA K tr s ds s1) (hi1 : s1.s[i]? = some (.res (lstR K ov' es1)))
    (hR : ∀ v, R ⟨.res (lstR K (some v) es1) :: ds.map .dat, s1.g⟩ (o v))
    (hq : ∀ a vs H1 F1 fp1, EnvW K σ s1 H1 F1 fp1 → Step H F fp H1 F1 fp1 → σ[i]? = some (some (.ref a)) → (∀ v, ov' = some v → v = .ref a) → FOk K E ((.ref a :: vs).map some) H1 F1 (fun j b => j = .inl 0 ∧ b = a) Q (o (.ref a)) ∧ fp1 (.inl i) a) :
    tCall (spF K R) [] E (tCons (tVar i) tr) σ H Q := by
  obtain ⟨a, vs0, h1, _⟩ := e.own hi
  refine ⟨.ref a, h1, ha σ H F fp e _ fun vs H1 F1 fp1 e1 st1 a1 => ?_⟩
  show spF K R ((V.ref a :: vs) ++ []) H1 Q E
  rw [List.append_nil]
  obtain ⟨a', vs1, h1', h2', h3', h4', h5'⟩ := e1.sl i _ hi1
  rw [h1] at h1'
  cases h1'
  obtain ⟨hq1, hfa⟩ := hq a vs H1 F1 fp1 e1 st1 h1 h2'
  refine ⟨⟨.res (lstR K (some (.ref a)) es1) :: ds.map .dat, s1.g⟩, F1, fun j b => j = .inl 0 ∧ b = a, _, ⟨e1.ex, by simp [a1.length], fun k x hx => ?_, e1.tb, fun j k b hjk h1 h2 => hjk (h1.1.trans h2.1.symm), fun j b h => by rw [h.2]; exact e1.nf _ a hfa, fun j b h => by rw [h.2]; exact e1.th _ a hfa, e1.nt⟩, hR (.ref a), hq1⟩
  cases k with
  | zero =>
    simp at hx
    subst hx
    exact ⟨a, vs1, rfl, fun v hv => (Option.some.inj hv).symm, fun b => ⟨fun z => z.2, fun z => ⟨rfl, z⟩⟩, h4', h5'⟩
  | succ k =>
    simp at hx
    obtain ⟨d, hd, rfl⟩ := hx
    obtain ⟨v, hv, hdv⟩ := a1.get hd
    exact ⟨v, by simp [hv], hdv⟩
theorem frameL {i : Nat} {a : Addr} {vs : List V} {ov' : Option V} {es1 es2 : List D} {ts : List Sl} (e1 : EnvW K σ s1 H1 F1 fp1) (hi1 : s1.s[i]? = some (.res (lstR K ov' es1))) (hσ : σ[i]? = some (some (.ref a))) (hov : ∀ v, ov' = some v → v = .ref a) (hfa : fp1 (.inl i) a)
    (ec : EnvW K ((.ref a :: vs).map some) ⟨.res (lstR K (some (.ref a)) es2) :: ts, s1.g⟩ H' F' fpc') (st : Step H1 F1 (fun j b => j = .inl 0 ∧ b = a) H' F' fpc') : ∃ fp2, EnvW K σ (s1.set i (.res (lstR K ov' es2))) H' F' fp2 ∧ Step H1 F1 fp1 H' F' fp2 ∧ ∀ j b, fp2 j b → fp1 j b ∨ fpc' (.inl 0) b := by
  have hil : i < s1.s.length := (List.getElem?_eq_some_iff.mp hi1).1
  have h := frame (J := fun j => j = .inl i) (fun _ => .inl 0) (s2 := s1.set i (.res (lstR K ov' es2))) e1 (fun j k hj hk _ => hj.trans hk.symm) (fun (j : Ix) (b : Addr) (h : j = .inl 0 ∧ b = a) => ⟨.inl i, rfl, h.2 ▸ hfa⟩) ec st (by simp [S.set]) (fun k x hx => ⟨fun hk => ?_, fun hk => ?_⟩) rfl
  · refine ⟨_, h.1, h.2, fun j b hb => ?_⟩
    by_cases hj : j = .inl i
    · simp only [hj, if_true] at hb; exact .inr hb
    · simp only [hj, if_false] at hb; exact .inl hb
  · cases hk
    have z : (s1.set i (.res (lstR K ov' es2))).s[i]? = some (.res (lstR K ov' es2)) := List.getElem?_set_self hil
    rw [z] at hx
    cases hx
    obtain ⟨a', vs', q1, q2, q3, q4, q5⟩ := ec.sl 0 _ (by simp; rfl)
    have ea : a' = a := by
      have := q2 (.ref a) rfl
      cases this; rfl
    subst ea
    exact ⟨a', vs', hσ, hov, q3, q4, q5⟩
  · have : k ≠ i := fun z => hk (by rw [z])
    rw [show (s1.set i (.res (lstR K ov' es2))).s = s1.s.set i (.res (lstR K ov' es2)) from rfl, List.getElem?_set_ne (Ne.symm this)] at hx
    exact hx
/-- f(xs, ..), xs an owned list that f may change -/
theorem ev_callL {R : FR} {tr : TA} {ds : List D} {i : Nat} {ov ov' : Option V} {es es1 es2 : List D} (hi : s.s[i]? = some (.res (lstR K ov es))) (ha : EvA K tr s ds s1) (hi1 : s1.s[i]? = some (.res (lstR K ov' es1)))
    (hR : ∀ v, R ⟨.res (lstR K (some v) es1) :: ds.map .dat, s1.g⟩ (.rt d ⟨.res (lstR K (some v) es2) :: ds.map .dat, s1.g⟩)) : Ev K (tCall (spF K R) [] E (tCons (tVar i) tr)) s d (s1.set i (.res (lstR K ov' es2))) := fun σ H F fp e Q q => by
  refine callL e hi ha hi1 hR fun a vs H1 F1 fp1 e1 st1 hσ hov => ?_
  have hfa : fp1 (.inl i) a := by
    obtain ⟨a', _, h1, h2, _⟩ := e1.own hi1
    rw [hσ] at h1; cases h1
    exact (h2 a).mpr rfl
  refine ⟨fun v H' F' fp' e' st av => ?_, hfa⟩
  obtain ⟨fp2, e2, st2, _⟩ := frameL e1 hi1 hσ hov hfa e' st
  exact q v H' F' fp2 e2 (st1.trans st2) av
theorem er_callL {R : FR} {tr : TA} {ds : List D} {i : Nat} {ov ov' : Option V} {es es1 es2 : List D} {C : Addr} {fl : Str} (hi : s.s[i]? = some (.res (lstR K ov es))) (ha : EvA K tr s ds s1) (hi1 : s1.s[i]? = some (.res (lstR K ov' es1)))
    (hR : ∀ v, R ⟨.res (lstR K (some v) es1) :: ds.map .dat, s1.g⟩ (.ex C fl d ⟨.res (lstR K (some v) es2) :: ds.map .dat, s1.g⟩)) : EvR K E (tCall (spF K R) [] E (tCons (tVar i) tr)) s C fl d (s1.set i (.res (lstR K ov' es2))) := fun σ H F fp e Q q => by
  refine callL e hi ha hi1 hR fun a vs H1 F1 fp1 e1 st1 hσ hov => ?_
  have hfa : fp1 (.inl i) a := by
    obtain ⟨a', _, h1, h2, _⟩ := e1.own hi1
    rw [hσ] at h1; cases h1
    exact (h2 a).mpr rfl
  refine ⟨fun dd v H' F' fp' e' st av bv => ?_, hfa⟩
  obtain ⟨fp2, e2, st2, _⟩ := frameL e1 hi1 hσ hov hfa e' st
  exact q dd v H' F' fp2 e2 (st1.trans st2) av bv
/-- what the caller of a def with one owned list sees behind it -/
theorem leave_lst {v : V} {vs : List V} {es es2 : List D} {ds : List D} {g : List (Addr × Str)} {s1 : S} (hg : s1.g = g) (h : s1.s[0]? = some (.res (lstR K (some v) es2))) : Leave (v :: vs) ⟨.res (lstR K (some v) es) :: ds.map .dat, g⟩ s1 ⟨.res (lstR K (some v) es2) :: ds.map .dat, g⟩ := ⟨rfl, fun i x hx => by
  cases i with
  | zero =>
    simp at hx
    subst hx
    exact .inr (.inr ⟨_, v, rfl, h, rfl, pin_lst⟩)
  | succ k =>
    have hx' := hx
    simp at hx
    obtain ⟨d, _, rfl⟩ := hx
    exact .inr (.inl ⟨d, rfl, hx'⟩), hg.symm⟩
end
end DL

namespace DL
open PySem PySem.Spec PyProof.Rows L2
section
variable {K : PySem.W.Frag} {F H : Hp} {v : V}
/-- a list operand -/
theorem AtC.lst {ds : List D} (h : AtC K F H v (.list ds)) (e : Ex F H) : ∃ a vs, v = .ref a ∧ H a = some (.lst vs) ∧ AtAll K F vs ds := by
  rcases h with h | ⟨a, vs, ds', rfl, h1, h2, h3⟩
  · cases h with
    | lst h t => exact ⟨_, _, rfl, e _ _ h, t⟩
  · cases h1; exact ⟨a, vs, rfl, h2, h3⟩
theorem int_inj {ns ms : List Int} (h : ns.map PyData.int = ms.map PyData.int) : ns = ms := by
  induction ns generalizing ms with
  | nil => cases ms with
    | nil => rfl
    | cons => cases h
  | cons n ns ih => cases ms with
    | nil => cases h
    | cons m ms => simp at h; rw [h.1, ih (by simpa using h.2)]
theorem no_none_key {kvs : List (Key × V)} {ds : List (D × D)} {d : D} {r : List (D × D)} (h : AtKV K F kvs ds) : ds ≠ (.none, d) :: r := fun z => by
  cases h with
  | nil => cases z
  | @cons k v kvs d' ds' a b =>
    have := (List.cons.inj z).1
    cases k <;> cases this
theorem AtC.scr {ns : List Int} (h : AtC K F H v (.dict [(.none, .list (ns.map PyData.int))])) (e : Ex F H) : ∃ a, v = .ref a ∧ SqL K H a (ns.map V.int) := by
  rcases h with h | ⟨a, vs, ds', rfl, h1, h2, h3⟩
  · generalize hd : (PyData.dict [(.none, .list (ns.map PyData.int))]) = d at h
    cases h with
    | dic h t => exact absurd (PyData.dict.inj hd).symm (no_none_key t)
    | obj h1 h2 t => cases hd
    | zic h t => cases hd
    | @scr a ms h =>
      have z := PyData.dict.inj hd
      have : ns = ms := int_inj (by
        have := (List.cons.inj z).1
        have := (Prod.mk.inj this).2
        exact PyData.list.inj this)
      subst this
      exact ⟨a, rfl, e.sqL h⟩
    | non => cases hd
    | bl b => cases hd
    | int i => cases hd
    | str x => cases hd
    | lst h t => cases hd
    | tup h t => cases hd
  · cases h1
theorem AtC.tup {ds : List D} (h : AtC K F H v (.tuple ds)) (e : Ex F H) : ∃ a vs, v = .ref a ∧ SqT K H a vs ∧ SqT K F a vs ∧ AtAll K F vs ds := by
  rcases h with h | ⟨a, vs, ds', rfl, h1, h2, h3⟩
  · cases h with
    | tup h t => exact ⟨_, _, rfl, e.sqT h, h, t⟩
  · cases h1
theorem AtC.int {i : Int} (h : AtC K F H v (.int i)) : v = .int i := by
  rcases h with h | ⟨a, vs, ds', rfl, h1, h2, h3⟩
  · cases h; rfl
  · cases h1
theorem AtC.bl {i : Bool} (h : AtC K F H v (.bool i)) : v = .bl i := by
  rcases h with h | ⟨a, vs, ds', rfl, h1, h2, h3⟩
  · cases h; rfl
  · cases h1
theorem AtC.str {i : Str} (h : AtC K F H v (.str i)) : v = .str i := by
  rcases h with h | ⟨a, vs, ds', rfl, h1, h2, h3⟩
  · cases h; rfl
  · cases h1
theorem AtC.non (h : AtC K F H v .none) : v = .non := by
  rcases h with h | ⟨a, vs, ds', rfl, h1, h2, h3⟩
  · cases h; rfl
  · cases h1
mutual
theorem flat_of_canLay : ∀ {d : D}, d.canLay0 = true → flat0 d = true
  | .none, _ => rfl
  | .bool _, _ => rfl
  | .int _, _ => rfl
  | .str _, _ => rfl
  | .list xs, h => by unfold flat0; exact flats_of_canLay (by unfold PyData.canLay0 at h; exact h)
  | .tuple xs, h => by unfold flat0; exact flats_of_canLay (by unfold PyData.canLay0 at h; exact h)
  | .dict _, h => by unfold PyData.canLay0 at h; cases h
theorem flats_of_canLay : ∀ {ds : List D}, PyData.canLayAll0 ds = true → flats0 ds = true
  | [], _ => rfl
  | x :: xs, h => by
    unfold PyData.canLayAll0 at h
    rw [Bool.and_eq_true] at h
    unfold flats0
    rw [flat_of_canLay h.1, flats_of_canLay h.2]; rfl
end
theorem AtC.dp {d : D} (h : AtC K F H v d) (e : Ex F H) (s : SeqAt.shaped d = true) : Dp K H v d := by
  have hf := flat_of_canLay (SeqAt.canLay_of_shaped s)
  rcases h with h | ⟨a, vs, ds, rfl, rfl, h2, h3⟩
  · exact h.dp e hf
  · exact .lst (.inl (.inl h2)) (AtAll.dp e h3 (by unfold flat0 at hf; exact hf))
end
/-! ### what the operators do to data -/
def addOk : D → D → Prop
  | .int _, .int _ => True
  | .str a, .str b => a.length + b.length ≤ sizeLine
  | .list a, .list b => a.length + b.length ≤ sizeLine
  | .tuple a, .tuple b => a.length + b.length ≤ sizeLine
  | .int _, .bool _ => True
  | _, _ => False
def addD : D → D → D
  | .int a, .int b => .int (a + b)
  | .str a, .str b => .str (a ++ b)
  | .list a, .list b => .list (a ++ b)
  | .tuple a, .tuple b => .tuple (a ++ b)
  | .int a, .bool b => .int (a + b2i b)
  | _, _ => .none
def subOk : D → D → Prop
  | .int _, .int _ => True
  | _, _ => False
def subD : D → D → D
  | .int a, .int b => .int (a - b)
  | _, _ => .none
def mulOk : D → D → Prop
  | .int a, .int b => CMul a b
  | .list a, .int k => -(2 ^ 63) ≤ k ∧ k < 2 ^ 63 ∧ a.length * k.toNat ≤ sizeLine
  | .tuple a, .int k => a ≠ [] ∧ 2 ≤ k ∧ k ≤ 1000 ∧ a.length ≤ 1000
  | _, _ => False
def mulD : D → D → D
  | .int a, .int b => .int (a * b)
  | .list a, .int k => .list (List.replicate k.toNat a).flatten
  | .tuple a, .int k => .tuple (List.replicate k.toNat a).flatten
  | _, _ => .none
def divOk : D → D → Prop
  | .int a, .int b => 0 < b ∧ b < 1073741824
  | _, _ => False
def divD : D → D → D
  | .int a, .int b => .int (a / b)
  | _, _ => .none
def modOk : D → D → Prop
  | .int _, .int b => 0 < b
  | _, _ => False
def modD : D → D → D
  | .int a, .int b => .int (a % b)
  | _, _ => .none
def powOk : D → D → Prop
  | .int a, .int b => CPow a b
  | _, _ => False
def powD : D → D → D
  | .int a, .int b => .int (a ^ b.toNat)
  | _, _ => .none
def ordOk : D → D → Prop
  | .int _, .int _ => True
  | _, _ => False
def ltD : D → D → D
  | .int a, .int b => .bool (decide (a < b))
  | _, _ => .none
def leD : D → D → D
  | .int a, .int b => .bool (decide (a ≤ b))
  | _, _ => .none
def gtD : D → D → D
  | .int a, .int b => .bool (decide (b < a))
  | _, _ => .none
def geD : D → D → D
  | .int a, .int b => .bool (decide (b ≤ a))
  | _, _ => .none
/-- < of ints, of texts, of tuples of ints -/
def intsOf : List D → Option (List Int)
  | [] => some []
  | .int i :: r => (intsOf r).map (i :: ·)
  | _ :: _ => none
theorem intsOf_eq : ∀ {ds : List D} {ns : List Int}, intsOf ds = some ns → ds = ns.map PyData.int
  | [], _, h => by cases h; rfl
  | .int i :: r, ns, h => by
    unfold intsOf at h
    cases q : intsOf r with
    | none => rw [q] at h; cases h
    | some l => rw [q] at h; cases h; rw [intsOf_eq q]; rfl
def ltXOk : D → D → Prop
  | .int _, .int _ => True
  | .str _, .str _ => True
  | .tuple a, .tuple b => (intsOf a).isSome = true ∧ (intsOf b).isSome = true
  | _, _ => False
def ltXD : D → D → D
  | .int a, .int b => .bool (decide (a < b))
  | .str a, .str b => .bool (decide (a.cps.toList < b.cps.toList))
  | .tuple a, .tuple b => .bool (HT.lexLt ((intsOf a).getD []) ((intsOf b).getD []))
  | _, _ => .none
def eqOk (x y : D) : Prop := SeqAt.shaped x = true ∧ SeqAt.shaped y = true
def eqD (x y : D) : D := .bool (PyData.eqv x y)
def neD (x y : D) : D := .bool (!PyData.eqv x y)
def isNoneB : D → Bool
  | .none => true
  | _ => false
def isOk (_ y : D) : Prop := y = .none
def isD (x _ : D) : D := .bool (isNoneB x)
def isnD (x _ : D) : D := .bool (!isNoneB x)
def isbOk : D → D → Prop
  | .bool _, .bool _ => True
  | _, _ => False
def isbD : D → D → D
  | .bool a, .bool b => .bool (decide (a = b))
  | _, _ => .none
def isnbD : D → D → D
  | .bool a, .bool b => .bool (!decide (a = b))
  | _, _ => .none
def inOk : D → D → Prop
  | x, .list ds => SeqAt.shaped x = true ∧ SeqAt.shaped (.list ds) = true
  | x, .tuple ds => SeqAt.shaped x = true ∧ SeqAt.shaped (.tuple ds) = true
  | _, _ => False
def inB : D → D → Bool
  | x, .list ds => ds.any fun z => PyData.eqv z x
  | x, .tuple ds => ds.any fun z => PyData.eqv z x
  | _, _ => false
def inD (x y : D) : D := .bool (inB x y)
def ninD (x y : D) : D := .bool (!inB x y)
/-- x[i] -/
def ixOk : D → D → Prop
  | .list ds, .int i => (atI ds i).isSome = true
  | .dict [(.none, .list ds)], .int i => (intsOf ds).isSome = true ∧ (atI ds i).isSome = true
  | .tuple ds, .int i => (atI ds i).isSome = true
  | .str z, .int i => z.length ≤ sizeLine ∧ (atI z.cps.toList i).isSome = true
  | _, _ => False
def ixD : D → D → D
  | .list ds, .int i => (atI ds i).getD .none
  | .dict [(.none, .list ds)], .int i => (atI ds i).getD .none
  | .tuple ds, .int i => (atI ds i).getD .none
  | .str z, .int i => .str ⟨#[(atI z.cps.toList i).getD 0]⟩
  | _, _ => .none
def negOk : D → Prop
  | .int _ => True
  | _ => False
def negD : D → D
  | .int a => .int (-a)
  | _ => .none
theorem atI_all {K : PySem.W.Frag} {F : Hp} {vs : List V} {ds : List D} {i : Int} {d : D} (h : AtAll K F vs ds) (e : atI ds i = some d) : ∃ v, atI vs i = some v ∧ At K F v d := by
  unfold atI at *
  rw [h.length]
  cases q : ixN ds.length i with
  | none => rw [q] at e; cases e
  | some j =>
    rw [q] at e
    exact h.get e
section
variable {X : Cx}
theorem op_addU : OpR X (binaryOp .Add) (rD2 X.K addOk addD) := by
  intro pins s σ H x y v u Q I rx ry ⟨F, dx, dy, e, hx, hy, ok, k⟩
  match dx, dy, ok with
  | .int i, .int j, _ =>
    have q1 := hx.int; have q2 := hy.int
    subst q1; subst q2
    exact op_add pins s σ H _ _ v u Q I rx ry ⟨i, j, rfl, rfl, k _ H F (Grow.refl e) (.int _)⟩
  | .int i, .bool j, _ =>
    have q1 := hx.int; have q2 := hy.bl
    subst q1; subst q2
    exact op_add_ib pins s σ H _ _ v u Q I rx ry ⟨i, j, rfl, rfl, k _ H F (Grow.refl e) (.int _)⟩
  | .str a, .str b, ok =>
    have q1 := hx.str; have q2 := hy.str
    subst q1; subst q2
    exact op_add_str pins s σ H _ _ v u Q I rx ry ⟨a, b, rfl, rfl, ok, k _ H F (Grow.refl e) (.str _)⟩
  | .list a, .list b, ok =>
    obtain ⟨p, vs, rfl, h1, h2⟩ := hx.lst e
    obtain ⟨q, ws, rfl, h3, h4⟩ := hy.lst e
    have ok : a.length + b.length ≤ sizeLine := ok
    refine op_cat pins s σ H _ _ v u Q I rx ry ⟨p, q, vs, ws, rfl, rfl, h1, h3, by rw [h2.length, h4.length]; exact ok, fun r hr => ?_⟩
    have g := Grow.laid (o := .lst (vs ++ ws)) e hr
    exact k _ _ _ g (.lst upd_same ((h2.append h4).ex g.f))
  | .tuple a, .tuple b, ok =>
    obtain ⟨p, vs, rfl, h1, h1', h2⟩ := hx.tup e
    obtain ⟨q, ws, rfl, h3, h3', h4⟩ := hy.tup e
    have ok : a.length + b.length ≤ sizeLine := ok
    refine op_catA pins s σ H _ _ v u Q I rx ry ⟨p, q, vs, ws, rfl, rfl, h1, h3, by rw [h2.length, h4.length]; exact ok, fun z => ?_, fun z z2 => ?_, fun z z2 r hr => ?_⟩
    · subst z
      cases h2
      exact k _ H F (Grow.refl e) (.tup h3' h4)
    · subst z2
      cases h4
      have : addD (.tuple a) (.tuple []) = .tuple a := by simp [addD]
      rw [this] at k
      exact k _ H F (Grow.refl e) (.tup h1' h2)
    · have g := Grow.laid (o := .tup (vs ++ ws)) e hr
      exact k _ _ _ g (.tup (.inl (.inl upd_same)) ((h2.append h4).ex g.f))
theorem op_subU : OpR X (binaryOp .Sub) (rD2 X.K subOk subD) := by
  intro pins s σ H x y v u Q I rx ry ⟨F, dx, dy, e, hx, hy, ok, k⟩
  match dx, dy, ok with
  | .int i, .int j, _ =>
    have q1 := hx.int; have q2 := hy.int
    subst q1; subst q2
    exact op_sub pins s σ H _ _ v u Q I rx ry ⟨i, j, rfl, rfl, k _ H F (Grow.refl e) (.int _)⟩
theorem AtAll.flat {K : PySem.W.Frag} {F : Hp} {vs : List V} {ds : List D} (h : AtAll K F vs ds) : ∀ n : Nat, AtAll K F (List.replicate n vs).flatten (List.replicate n ds).flatten
  | 0 => .nil
  | n + 1 => by rw [List.replicate_succ, List.replicate_succ, List.flatten_cons, List.flatten_cons]; exact h.append (AtAll.flat h n)
theorem op_mulU : OpR X (binaryOp .Mult) (rD2 X.K mulOk mulD) := by
  intro pins s σ H x y v u Q I rx ry ⟨F, dx, dy, e, hx, hy, ok, k⟩
  match dx, dy, ok with
  | .int i, .int j, ok =>
    have q1 := hx.int; have q2 := hy.int
    subst q1; subst q2
    exact op_mul pins s σ H _ _ v u Q I rx ry ⟨i, j, rfl, rfl, ok, k _ H F (Grow.refl e) (.int _)⟩
  | .list a, .int j, ok =>
    obtain ⟨p, vs, rfl, h1, h2⟩ := hx.lst e
    have q2 := hy.int
    subst q2
    obtain ⟨o1, o2, o3⟩ := ok
    refine op_rep pins s σ H _ _ v u Q I rx ry ⟨p, j, vs, rfl, rfl, h1, o1, o2, by rw [h2.length]; exact o3, fun r hr => ?_⟩
    have g := Grow.laid (o := .lst (List.replicate j.toNat vs).flatten) e hr
    exact k _ _ _ g (.lst upd_same ((h2.flat _).ex g.f))
  | .tuple a, .int j, ok =>
    obtain ⟨p, vs, rfl, h1, h1', h2⟩ := hx.tup e
    have q2 := hy.int
    subst q2
    obtain ⟨o0, o1, o2, o3⟩ := ok
    refine op_repT pins s σ H _ _ v u Q I rx ry ⟨p, j, vs, rfl, rfl, h1, (fun z => o0 (by cases h2 with | nil => rfl | cons _ _ => cases z)), o1, o2, by rw [h2.length]; exact o3, fun r hr => ?_⟩
    have g := Grow.laid (o := .tup (List.replicate j.toNat vs).flatten) e hr
    exact k _ _ _ g (.tup (.inl (.inl upd_same)) ((h2.flat _).ex g.f))
theorem op_divU : OpR X (binaryOp .FloorDiv) (rD2 X.K divOk divD) := by
  intro pins s σ H x y v u Q I rx ry ⟨F, dx, dy, e, hx, hy, ok, k⟩
  match dx, dy, ok with
  | .int i, .int j, ok =>
    have q1 := hx.int; have q2 := hy.int
    subst q1; subst q2
    exact op_fdiv pins s σ H _ _ v u Q I rx ry ⟨i, j, rfl, rfl, ok, k _ H F (Grow.refl e) (.int _)⟩
theorem op_modU : OpR X (binaryOp .Mod) (rD2 X.K modOk modD) := by
  intro pins s σ H x y v u Q I rx ry ⟨F, dx, dy, e, hx, hy, ok, k⟩
  match dx, dy, ok with
  | .int i, .int j, ok =>
    have q1 := hx.int; have q2 := hy.int
    subst q1; subst q2
    exact op_mod pins s σ H _ _ v u Q I rx ry ⟨i, j, rfl, rfl, ok, k _ H F (Grow.refl e) (.int _)⟩
theorem op_powU : OpR X (binaryOp .Pow) (rD2 X.K powOk powD) := by
  intro pins s σ H x y v u Q I rx ry ⟨F, dx, dy, e, hx, hy, ok, k⟩
  match dx, dy, ok with
  | .int i, .int j, ok =>
    have q1 := hx.int; have q2 := hy.int
    subst q1; subst q2
    exact op_pow pins s σ H _ _ v u Q I rx ry ⟨i, j, rfl, rfl, ok, k _ H F (Grow.refl e) (.int _)⟩
theorem op_leU : OpR X (compareOp .LtE) (rD2 X.K ordOk leD) := by
  intro pins s σ H x y v u Q I rx ry ⟨F, dx, dy, e, hx, hy, ok, k⟩
  match dx, dy, ok with
  | .int i, .int j, _ =>
    have q1 := hx.int; have q2 := hy.int
    subst q1; subst q2
    exact op_le pins s σ H _ _ v u Q I rx ry ⟨i, j, rfl, rfl, k _ H F (Grow.refl e) (.bl _)⟩
theorem op_gtU : OpR X (compareOp .Gt) (rD2 X.K ordOk gtD) := by
  intro pins s σ H x y v u Q I rx ry ⟨F, dx, dy, e, hx, hy, ok, k⟩
  match dx, dy, ok with
  | .int i, .int j, _ =>
    have q1 := hx.int; have q2 := hy.int
    subst q1; subst q2
    exact op_gt pins s σ H _ _ v u Q I rx ry ⟨i, j, rfl, rfl, k _ H F (Grow.refl e) (.bl _)⟩
theorem op_geU : OpR X (compareOp .GtE) (rD2 X.K ordOk geD) := by
  intro pins s σ H x y v u Q I rx ry ⟨F, dx, dy, e, hx, hy, ok, k⟩
  match dx, dy, ok with
  | .int i, .int j, _ =>
    have q1 := hx.int; have q2 := hy.int
    subst q1; subst q2
    exact op_ge pins s σ H _ _ v u Q I rx ry ⟨i, j, rfl, rfl, k _ H F (Grow.refl e) (.bl _)⟩
theorem op_ltU (hu : X.A.units < cLine) : OpR X (compareOp .Lt) (rD2 X.K ltXOk ltXD) := by
  intro pins s σ H x y v u Q I rx ry ⟨F, dx, dy, e, hx, hy, ok, k⟩
  match dx, dy, ok with
  | .int i, .int j, _ =>
    have q1 := hx.int; have q2 := hy.int
    subst q1; subst q2
    exact op_lt pins s σ H _ _ v u Q I rx ry ⟨i, j, rfl, rfl, k _ H F (Grow.refl e) (.bl _)⟩
  | .str i, .str j, _ =>
    have q1 := hx.str; have q2 := hy.str
    subst q1; subst q2
    exact op_lt_str pins s σ H _ _ v u Q I rx ry ⟨i, j, rfl, rfl, k _ H F (Grow.refl e) (.bl _)⟩
  | .tuple a, .tuple b, ok =>
    obtain ⟨p, vs, rfl, h1, h1', h2⟩ := hx.tup e
    obtain ⟨q, ws, rfl, h3, h3', h4⟩ := hy.tup e
    obtain ⟨o1, o2⟩ := ok
    obtain ⟨ns, hn⟩ := Option.isSome_iff_exists.mp o1
    obtain ⟨ms, hm⟩ := Option.isSome_iff_exists.mp o2
    have ea := intsOf_eq hn
    have eb := intsOf_eq hm
    subst ea; subst eb
    rw [h2.ints] at h1
    rw [h4.ints] at h3
    refine op_ltT hu pins s σ H _ _ v u Q I rx ry ⟨p, q, ns, ms, rfl, rfl, h1, h3, k _ H F (Grow.refl e) ?_⟩
    have : ltXD (.tuple (ns.map PyData.int)) (.tuple (ms.map PyData.int)) = .bool (HT.lexLt ns ms) := by simp [ltXD, hn, hm]
    rw [this]
    exact .bl _
theorem op_eqU (hu : X.A.units + 64 < cLine) : OpR X (compareOp .Eq) (rD2 X.K eqOk eqD) := by
  intro pins s σ H x y v u Q I rx ry ⟨F, dx, dy, e, hx, hy, ⟨o1, o2⟩, k⟩
  exact op_eqD hu pins s σ H _ _ v u Q I rx ry ⟨dx, dy, hx.dp e o1, hy.dp e o2, o1, o2, k _ H F (Grow.refl e) (.bl _)⟩
theorem op_neU (hu : X.A.units + 64 < cLine) : OpR X (compareOp .NotEq) (rD2 X.K eqOk neD) := by
  intro pins s σ H x y v u Q I rx ry ⟨F, dx, dy, e, hx, hy, ⟨o1, o2⟩, k⟩
  exact op_neD hu pins s σ H _ _ v u Q I rx ry ⟨dx, dy, hx.dp e o1, hy.dp e o2, o1, o2, k _ H F (Grow.refl e) (.bl _)⟩
theorem isNone_dec {K : PySem.W.Frag} {F H : Hp} {v : V} {d : D} (h : AtC K F H v d) : decide (v = .non) = isNoneB d := by
  rcases h with h | ⟨a, vs, ds, rfl, rfl, _⟩
  · cases h <;> rfl
  · rfl
theorem op_isU : OpR X (compareOp .Is) (rD2 X.K isOk isD) := by
  intro pins s σ H x y v u Q I rx ry ⟨F, dx, dy, e, hx, hy, ok, k⟩
  have ok : dy = .none := ok
  subst ok
  have q2 := hy.non
  subst q2
  refine op_isN pins s σ H _ _ v u Q I rx ry ⟨rfl, ?_⟩
  rw [isNone_dec hx]
  exact k _ H F (Grow.refl e) (.bl _)
theorem op_isnU : OpR X (compareOp .IsNot) (rD2 X.K isOk isnD) := by
  intro pins s σ H x y v u Q I rx ry ⟨F, dx, dy, e, hx, hy, ok, k⟩
  have ok : dy = .none := ok
  subst ok
  have q2 := hy.non
  subst q2
  refine op_notN pins s σ H _ _ v u Q I rx ry ⟨rfl, ?_⟩
  rw [isNone_dec hx]
  exact k _ H F (Grow.refl e) (.bl _)
theorem op_isbU : OpR X (compareOp .Is) (rD2 X.K isbOk isbD) := by
  intro pins s σ H x y v u Q I rx ry ⟨F, dx, dy, e, hx, hy, ok, k⟩
  match dx, dy, ok with
  | .bool i, .bool j, _ =>
    have q1 := hx.bl; have q2 := hy.bl
    subst q1; subst q2
    exact op_isBl pins s σ H _ _ v u Q I rx ry ⟨i, j, rfl, rfl, k _ H F (Grow.refl e) (.bl _)⟩
theorem op_isnbU : OpR X (compareOp .IsNot) (rD2 X.K isbOk isnbD) := by
  intro pins s σ H x y v u Q I rx ry ⟨F, dx, dy, e, hx, hy, ok, k⟩
  match dx, dy, ok with
  | .bool i, .bool j, _ =>
    have q1 := hx.bl; have q2 := hy.bl
    subst q1; subst q2
    exact op_notBl pins s σ H _ _ v u Q I rx ry ⟨i, j, rfl, rfl, k _ H F (Grow.refl e) (.bl _)⟩
theorem op_inU (hu : X.A.units + 65 < cLine) : OpR X (compareOp .In) (rD2 X.K inOk inD) := by
  intro pins s σ H x y v u Q I rx ry ⟨F, dx, dy, e, hx, hy, ok, k⟩
  match dy, ok with
  | .list ds, ⟨o1, o2⟩ => exact op_inD hu pins s σ H _ _ v u Q I rx ry ⟨dx, ds, hx.dp e o1, hy.dp e o2, o1, o2, k _ H F (Grow.refl e) (.bl _)⟩
  | .tuple ds, ⟨o1, o2⟩ =>
    obtain ⟨as, r1⟩ := Dp.reads I dx x v (hx.dp e o1) rx
    obtain ⟨bs, r2⟩ := Dp.reads I (.tuple ds) y u (hy.dp e o2) ry
    exact SeqAt.in_tuple_reads r2 r1 (SeqAt.canLay_of_shaped o2) (SeqAt.canLay_of_shaped o1) (room_in_shaped o1 hu) ⟨.bl _, H, I, rfl, k _ H F (Grow.refl e) (.bl _)⟩
theorem op_ninU (hu : X.A.units + 65 < cLine) : OpR X (compareOp .NotIn) (rD2 X.K inOk ninD) := by
  intro pins s σ H x y v u Q I rx ry ⟨F, dx, dy, e, hx, hy, ok, k⟩
  match dy, ok with
  | .list ds, ⟨o1, o2⟩ => exact op_notInD hu pins s σ H _ _ v u Q I rx ry ⟨dx, ds, hx.dp e o1, hy.dp e o2, o1, o2, k _ H F (Grow.refl e) (.bl _)⟩
  | .tuple ds, ⟨o1, o2⟩ =>
    obtain ⟨as, r1⟩ := Dp.reads I dx x v (hx.dp e o1) rx
    obtain ⟨bs, r2⟩ := Dp.reads I (.tuple ds) y u (hy.dp e o2) ry
    exact SeqAt.notIn_tuple_reads r2 r1 (SeqAt.canLay_of_shaped o2) (SeqAt.canLay_of_shaped o1) (room_in_shaped o1 hu) ⟨.bl _, H, I, rfl, k _ H F (Grow.refl e) (.bl _)⟩
theorem ix_U : IxR X (rD2 X.K ixOk ixD) := by
  intro va vb pins s σ H x y v u Q I rx ry ⟨F, dx, dy, e, hx, hy, ok, k⟩
  match dx, dy, ok with
  | .dict [(.none, .list ds)], .int i, ⟨o1, ok⟩ =>
    obtain ⟨ns, hn⟩ := Option.isSome_iff_exists.mp o1
    have ee := intsOf_eq hn
    subst ee
    obtain ⟨p, rfl, h1⟩ := hx.scr e
    have q2 := hy.int
    subst q2
    obtain ⟨d, hd⟩ := Option.isSome_iff_exists.mp ok
    obtain ⟨w, hw, ha⟩ := atI_all (K := X.K) (F := F) AtAll.of_ints hd
    have : ixD (.dict [(.none, .list (ns.map PyData.int))]) (.int i) = d := by simp [ixD, hd]
    rw [this] at k
    exact ix_list va vb pins s σ H _ _ v u Q I rx ry ⟨p, _, i, w, rfl, rfl, h1, hw, k _ H F (Grow.refl e) ha⟩
  | .list ds, .int i, ok =>
    obtain ⟨p, vs, rfl, h1, h2⟩ := hx.lst e
    have q2 := hy.int
    subst q2
    obtain ⟨d, hd⟩ := Option.isSome_iff_exists.mp ok
    obtain ⟨w, hw, ha⟩ := atI_all h2 hd
    have : ixD (.list ds) (.int i) = d := by simp [ixD, hd]
    rw [this] at k
    exact ix_list va vb pins s σ H _ _ v u Q I rx ry ⟨p, vs, i, w, rfl, rfl, .inl (.inl h1), hw, k _ H F (Grow.refl e) ha⟩
  | .tuple ds, .int i, ok =>
    obtain ⟨p, vs, rfl, h1, h1', h2⟩ := hx.tup e
    have q2 := hy.int
    subst q2
    obtain ⟨d, hd⟩ := Option.isSome_iff_exists.mp ok
    obtain ⟨w, hw, ha⟩ := atI_all h2 hd
    have : ixD (.tuple ds) (.int i) = d := by simp [ixD, hd]
    rw [this] at k
    exact ix_tup va vb pins s σ H _ _ v u Q I rx ry ⟨p, vs, i, w, rfl, rfl, h1, hw, k _ H F (Grow.refl e) ha⟩
  | .str z, .int i, ⟨o1, ok⟩ =>
    have q1 := hx.str; have q2 := hy.int
    subst q1; subst q2
    obtain ⟨d, hd⟩ := Option.isSome_iff_exists.mp ok
    have : ixD (.str z) (.int i) = .str ⟨#[d]⟩ := by simp [ixD, hd]
    rw [this] at k
    exact ix_str va vb pins s σ H _ _ v u Q I rx ry ⟨z, i, d, rfl, rfl, o1, hd, k _ H F (Grow.refl e) (.str _)⟩
theorem un_negU : UnR X (unaryOp .USub) (rD1 X.K negOk negD) := by
  intro pins s σ H x v Q I rx ⟨F, dx, e, hx, ok, k⟩
  match dx, ok with
  | .int i, _ =>
    have q1 := hx.int
    subst q1
    exact un_neg pins s σ H _ v Q I rx ⟨i, rfl, k _ H F (Grow.refl e) (.int _)⟩
end
end DL

namespace DL
open PySem PySem.Spec PyProof.Rows L2
/-! ### built-ins by data -/
def lenOk : List D → Prop
  | [.list _] => True
  | [.dict [(.none, .list ds)]] => (intsOf ds).isSome = true
  | [.tuple _] => True
  | [.str z] => z.length ≤ sizeLine
  | _ => False
def lenD : List D → D
  | [.list a] => .int a.length
  | [.dict [(.none, .list a)]] => .int a.length
  | [.tuple a] => .int a.length
  | [.str z] => .int z.length
  | _ => .none
def absOk : List D → Prop
  | [.int _] => True
  | _ => False
def absD : List D → D
  | [.int a] => .int (if a < 0 then -a else a)
  | _ => .none
def intOk : List D → Prop
  | [.int _] => True
  | [.bool _] => True
  | _ => False
def intD : List D → D
  | [.int a] => .int a
  | [.bool b] => .int (if b then 1 else 0)
  | _ => .none
def lmax (ns : List Int) : Int := ns.foldl max (ns.headD 0)
def lmin (ns : List Int) : Int := ns.foldl min (ns.headD 0)
def mmOk : List D → Prop
  | [.int _, .int _] => True
  | [.list ds] => ds ≠ [] ∧ (intsOf ds).isSome = true
  | _ => False
def maxD : List D → D
  | [.int a, .int b] => .int (max a b)
  | [.list ds] => .int (lmax ((intsOf ds).getD []))
  | _ => .none
def minD : List D → D
  | [.int a, .int b] => .int (min a b)
  | [.list ds] => .int (lmin ((intsOf ds).getD []))
  | _ => .none
def sumOk : List D → Prop
  | [.list ds] => (intsOf ds).isSome = true
  | _ => False
def sumD : List D → D
  | [.list ds] => .int ((intsOf ds).getD []).sum
  | _ => .none
def boolsOf : List D → Option (List Bool)
  | [] => some []
  | .bool i :: r => (boolsOf r).map (i :: ·)
  | _ :: _ => none
theorem boolsOf_eq : ∀ {ds : List D} {ns : List Bool}, boolsOf ds = some ns → ds = ns.map PyData.bool
  | [], _, h => by cases h; rfl
  | .bool i :: r, ns, h => by
    unfold boolsOf at h
    cases q : boolsOf r with
    | none => rw [q] at h; cases h
    | some l => rw [q] at h; cases h; rw [boolsOf_eq q]; rfl
theorem intsOf_map (ns : List Int) : intsOf (ns.map PyData.int) = some ns := by
  induction ns with
  | nil => rfl
  | cons n ns ih => simp [intsOf, ih]
theorem boolsOf_map (ns : List Bool) : boolsOf (ns.map PyData.bool) = some ns := by
  induction ns with
  | nil => rfl
  | cons n ns ih => simp [boolsOf, ih]
theorem AtAll.bools {K : PySem.W.Frag} {F : Hp} : ∀ {vs : List V} {ns : List Bool}, AtAll K F vs (ns.map PyData.bool) → vs = ns.map V.bl
  | [], [], .nil => rfl
  | _, n :: ns, .cons h t => by cases h; rw [AtAll.bools t]; rfl
def allOk : List D → Prop
  | [.list ds] => (boolsOf ds).isSome = true
  | _ => False
def allD : List D → D
  | [.list ds] => .bool (((boolsOf ds).getD []).all id)
  | _ => .none
def anyD : List D → D
  | [.list ds] => .bool (((boolsOf ds).getD []).any id)
  | _ => .none
def seqOk : List D → Prop
  | [.list _] => True
  | [.tuple _] => True
  | _ => False
def tupD : List D → D
  | [.list a] => .tuple a
  | [.tuple a] => .tuple a
  | _ => .none
def listD : List D → D
  | [.list a] => .list a
  | [.tuple a] => .list a
  | _ => .none
/-- the ints in order -/
def sortI (ns : List Int) : List Int := ns.mergeSort fun a b => decide (a ≤ b)
theorem sortI_perm (ns : List Int) : (sortI ns).Perm ns := List.mergeSort_perm _ _
theorem sortI_sorted (ns : List Int) : (sortI ns).Pairwise (· ≤ ·) := by
  have h := List.pairwise_mergeSort (le := fun a b : Int => decide (a ≤ b)) (fun a b c h1 h2 => by simp at *; omega) (fun a b => by simp; omega) ns
  exact h.imp fun h => by simpa using h
theorem sorted_unique : ∀ {l m : List Int}, l.Perm m → l.Pairwise (· ≤ ·) → m.Pairwise (· ≤ ·) → l = m
  | [], m, h, _, _ => by rw [List.Perm.nil_eq h]
  | x :: l, [], h, _, _ => by simpa using h.length_eq
  | x :: l, y :: m, h, h1, h2 => by
    have hx : x ∈ y :: m := h.subset (List.mem_cons_self)
    have hy : y ∈ x :: l := h.symm.subset (List.mem_cons_self)
    rw [List.pairwise_cons] at h1 h2
    have e : x = y := by
      rcases List.mem_cons.mp hx with e | hx
      · exact e
      · rcases List.mem_cons.mp hy with e | hy
        · exact e.symm
        · exact Int.le_antisymm (h1.1 y hy) (h2.1 x hx)
    subst e
    rw [sorted_unique (List.Perm.cons_inv h) h1.2 h2.2]
def sortOk : List D → Prop
  | [.list ds] => (intsOf ds).isSome = true
  | _ => False
def sortD : List D → D
  | [.list ds] => .list ((sortI ((intsOf ds).getD [])).map PyData.int)
  | _ => .none
theorem lmax_spec : ∀ (ns : List Int) (m : Int), m ∈ ns → (∀ y ∈ ns, y ≤ m) → lmax ns = m := by
  have key : ∀ (ns : List Int) (a : Int), (ns.foldl max a = a ∨ ns.foldl max a ∈ ns) ∧ a ≤ ns.foldl max a ∧ ∀ y ∈ ns, y ≤ ns.foldl max a := by
    intro ns
    induction ns with
    | nil => intro a; exact ⟨.inl rfl, Int.le_refl _, fun y h => by simp at h⟩
    | cons x ns ih =>
      intro a
      obtain ⟨h1, h2, h3⟩ := ih (max a x)
      simp only [List.foldl_cons]
      refine ⟨?_, by omega, fun y hy => ?_⟩
      · rcases h1 with h1 | h1
        · rw [h1]
          by_cases q : a ≤ x
          · right; rw [Int.max_eq_right q]; simp
          · left; omega
        · exact .inr (List.mem_cons_of_mem _ h1)
      · rcases List.mem_cons.mp hy with rfl | hy
        · omega
        · exact h3 y hy
  intro ns m hm hle
  cases ns with
  | nil => simp at hm
  | cons x ns =>
    unfold lmax
    obtain ⟨h1, h2, h3⟩ := key (x :: ns) x
    have h4 : (x :: ns).foldl max x ∈ x :: ns := by
      rcases h1 with h1 | h1
      · rw [h1]; simp
      · exact h1
    exact Int.le_antisymm (hle _ h4) (h3 m hm)
theorem lmin_spec : ∀ (ns : List Int) (m : Int), m ∈ ns → (∀ y ∈ ns, m ≤ y) → lmin ns = m := by
  have key : ∀ (ns : List Int) (a : Int), (ns.foldl min a = a ∨ ns.foldl min a ∈ ns) ∧ ns.foldl min a ≤ a ∧ ∀ y ∈ ns, ns.foldl min a ≤ y := by
    intro ns
    induction ns with
    | nil => intro a; exact ⟨.inl rfl, Int.le_refl _, fun y h => by simp at h⟩
    | cons x ns ih =>
      intro a
      obtain ⟨h1, h2, h3⟩ := ih (min a x)
      simp only [List.foldl_cons]
      refine ⟨?_, by omega, fun y hy => ?_⟩
      · rcases h1 with h1 | h1
        · rw [h1]
          by_cases q : x ≤ a
          · right; rw [Int.min_eq_right q]; simp
          · left; omega
        · exact .inr (List.mem_cons_of_mem _ h1)
      · rcases List.mem_cons.mp hy with rfl | hy
        · omega
        · exact h3 y hy
  intro ns m hm hle
  cases ns with
  | nil => simp at hm
  | cons x ns =>
    unfold lmin
    obtain ⟨h1, h2, h3⟩ := key (x :: ns) x
    have h4 : (x :: ns).foldl min x ∈ x :: ns := by
      rcases h1 with h1 | h1
      · rw [h1]; simp
      · exact h1
    exact Int.le_antisymm (h3 m hm) (hle _ h4)
section
variable {X : Cx}
theorem call_lenU : CallR X (.builtin "len") (rDn X.K lenOk lenD) := by
  intro pins s σ H xs us Q I r ⟨F, ds, e, ha, ok, k⟩
  match ds, ok, ha with
  | [.dict [(.none, .list a)]], o1, .cons h1 .nil =>
    obtain ⟨ns, hn⟩ := Option.isSome_iff_exists.mp o1
    have ee := intsOf_eq hn
    subst ee
    obtain ⟨p, rfl, h2⟩ := h1.scr e
    refine call_len_seq pins s σ H _ us Q I r ⟨p, _, rfl, .inl h2, ?_⟩
    have : lenD [.dict [(.none, .list (ns.map PyData.int))]] = .int ((ns.map V.int).length : Nat) := by simp [lenD]
    rw [this] at k
    exact k _ H F (Grow.refl e) (.int _)
  | [.list a], _, .cons h1 .nil =>
    obtain ⟨p, vs, rfl, h2, h3⟩ := h1.lst e
    refine call_len_seq pins s σ H _ us Q I r ⟨p, vs, rfl, .inl (.inl (.inl h2)), ?_⟩
    rw [h3.length]
    exact k _ H F (Grow.refl e) (.int _)
  | [.tuple a], _, .cons h1 .nil =>
    obtain ⟨p, vs, rfl, h2, _, h3⟩ := h1.tup e
    refine call_len_seq pins s σ H _ us Q I r ⟨p, vs, rfl, .inr h2, ?_⟩
    rw [h3.length]
    exact k _ H F (Grow.refl e) (.int _)
  | [.str z], ok, .cons h1 .nil =>
    have q := h1.str
    subst q
    exact call_len_str pins s σ H _ us Q I r ⟨z, rfl, ok, k _ H F (Grow.refl e) (.int _)⟩
theorem call_absU : CallR X (.builtin "abs") (rDn X.K absOk absD) := by
  intro pins s σ H xs us Q I r ⟨F, ds, e, ha, ok, k⟩
  match ds, ok, ha with
  | [.int a], _, .cons h1 .nil =>
    have q := h1.int
    subst q
    exact call_abs pins s σ H _ us Q I r ⟨a, rfl, k _ H F (Grow.refl e) (.int _)⟩
theorem call_intU : CallR X (.type "int") (rDn X.K intOk intD) := by
  intro pins s σ H xs us Q I r ⟨F, ds, e, ha, ok, k⟩
  match ds, ok, ha with
  | [.int a], _, .cons h1 .nil =>
    have q := h1.int
    subst q
    exact call_int1 pins s σ H _ us Q I r (.inl ⟨a, rfl, k _ H F (Grow.refl e) (.int _)⟩)
  | [.bool a], _, .cons h1 .nil =>
    have q := h1.bl
    subst q
    exact call_int1 pins s σ H _ us Q I r (.inr ⟨a, rfl, k _ H F (Grow.refl e) (.int _)⟩)
theorem call_maxU (hc : X.calm = true) : CallR X (.builtin "max") (rDn X.K mmOk maxD) := by
  intro pins s σ H xs us Q I r ⟨F, ds, e, ha, ok, k⟩
  match ds, ok, ha with
  | [.int a, .int b], _, .cons h1 (.cons h2 .nil) =>
    have q := h1.int; have q2 := h2.int
    subst q; subst q2
    refine call_max2 hc pins s σ H _ us Q I r ⟨a, b, rfl, ?_⟩
    have : (if b > a then b else a) = max a b := by omega
    rw [this]
    exact k _ H F (Grow.refl e) (.int _)
  | [.list ds], ⟨o1, o2⟩, .cons h1 .nil =>
    obtain ⟨p, vs, rfl, h2, h3⟩ := h1.lst e
    obtain ⟨ns, hn⟩ := Option.isSome_iff_exists.mp o2
    have ee := intsOf_eq hn
    subst ee
    rw [h3.ints] at h2
    refine cr_max hc pins s σ H _ us Q I r ⟨p, ns, rfl, .inl (.inl h2), by cases ns with | nil => exact absurd rfl o1 | cons _ _ => simp, fun m hm hle => ?_⟩
    have : maxD [.list (ns.map PyData.int)] = .int m := by simp only [maxD, hn, Option.getD_some]; rw [lmax_spec ns m hm hle]
    rw [this] at k
    exact k _ H F (Grow.refl e) (.int _)
theorem call_minU (hc : X.calm = true) : CallR X (.builtin "min") (rDn X.K mmOk minD) := by
  intro pins s σ H xs us Q I r ⟨F, ds, e, ha, ok, k⟩
  match ds, ok, ha with
  | [.int a, .int b], _, .cons h1 (.cons h2 .nil) =>
    have q := h1.int; have q2 := h2.int
    subst q; subst q2
    refine call_min2 hc pins s σ H _ us Q I r ⟨a, b, rfl, ?_⟩
    have : (if b < a then b else a) = min a b := by omega
    rw [this]
    exact k _ H F (Grow.refl e) (.int _)
  | [.list ds], ⟨o1, o2⟩, .cons h1 .nil =>
    obtain ⟨p, vs, rfl, h2, h3⟩ := h1.lst e
    obtain ⟨ns, hn⟩ := Option.isSome_iff_exists.mp o2
    have ee := intsOf_eq hn
    subst ee
    rw [h3.ints] at h2
    refine cr_min hc pins s σ H _ us Q I r ⟨p, ns, rfl, .inl (.inl h2), by cases ns with | nil => exact absurd rfl o1 | cons _ _ => simp, fun m hm hle => ?_⟩
    have : minD [.list (ns.map PyData.int)] = .int m := by simp only [minD, hn, Option.getD_some]; rw [lmin_spec ns m hm hle]
    rw [this] at k
    exact k _ H F (Grow.refl e) (.int _)
theorem call_sumU (hc : X.calm = true) : CallR X (.builtin "sum") (rDn X.K sumOk sumD) := by
  intro pins s σ H xs us Q I r ⟨F, ds, e, ha, ok, k⟩
  match ds, ok, ha with
  | [.list ds], o2, .cons h1 .nil =>
    obtain ⟨p, vs, rfl, h2, h3⟩ := h1.lst e
    obtain ⟨ns, hn⟩ := Option.isSome_iff_exists.mp o2
    have ee := intsOf_eq hn
    subst ee
    rw [h3.ints] at h2
    refine cr_sum hc pins s σ H _ us Q I r ⟨p, ns, rfl, .inl (.inl h2), ?_⟩
    have : sumD [.list (ns.map PyData.int)] = .int ns.sum := by simp only [sumD, hn, Option.getD_some]
    rw [this] at k
    exact k _ H F (Grow.refl e) (.int _)
theorem call_allU (hc : X.calm = true) : CallR X (.builtin "all") (rDn X.K allOk allD) := by
  intro pins s σ H xs us Q I r ⟨F, ds, e, ha, ok, k⟩
  match ds, ok, ha with
  | [.list ds], o2, .cons h1 .nil =>
    obtain ⟨p, vs, rfl, h2, h3⟩ := h1.lst e
    obtain ⟨ns, hn⟩ := Option.isSome_iff_exists.mp o2
    have ee := boolsOf_eq hn
    subst ee
    rw [h3.bools] at h2
    refine cr_all hc pins s σ H _ us Q I r ⟨p, ns, rfl, .inl (.inl h2), ?_⟩
    have : allD [.list (ns.map PyData.bool)] = .bool (ns.all id) := by simp only [allD, hn, Option.getD_some]
    rw [this] at k
    exact k _ H F (Grow.refl e) (.bl _)
theorem call_anyU (hc : X.calm = true) : CallR X (.builtin "any") (rDn X.K allOk anyD) := by
  intro pins s σ H xs us Q I r ⟨F, ds, e, ha, ok, k⟩
  match ds, ok, ha with
  | [.list ds], o2, .cons h1 .nil =>
    obtain ⟨p, vs, rfl, h2, h3⟩ := h1.lst e
    obtain ⟨ns, hn⟩ := Option.isSome_iff_exists.mp o2
    have ee := boolsOf_eq hn
    subst ee
    rw [h3.bools] at h2
    refine cr_any hc pins s σ H _ us Q I r ⟨p, ns, rfl, .inl (.inl h2), ?_⟩
    have : anyD [.list (ns.map PyData.bool)] = .bool (ns.any id) := by simp only [anyD, hn, Option.getD_some]
    rw [this] at k
    exact k _ H F (Grow.refl e) (.bl _)
theorem call_tupU : CallR X (.type "tuple") (rDn X.K seqOk tupD) := by
  intro pins s σ H xs us Q I r ⟨F, ds, e, ha, ok, k⟩
  match ds, ok, ha with
  | [.list a], _, .cons h1 .nil =>
    obtain ⟨p, vs, rfl, h2, h3⟩ := h1.lst e
    refine call_tuple_of pins s σ H _ us Q I r ⟨p, vs, rfl, .inl ⟨.inl (.inl h2), fun l hl => ?_⟩⟩
    have g := Grow.laid (o := .tup vs) e hl
    exact k _ _ _ g (.tup (.inl (.inl upd_same)) (h3.ex g.f))
  | [.tuple a], _, .cons h1 .nil =>
    obtain ⟨p, vs, rfl, h2, h2', h3⟩ := h1.tup e
    exact call_tuple_of pins s σ H _ us Q I r ⟨p, vs, rfl, .inr ⟨h2, k _ H F (Grow.refl e) (.tup h2' h3)⟩⟩
/-- list(xs): a new list, that may be owned -/
def rDl (K : PySem.W.Frag) (ok : List D → Prop) (f : List D → List D) : List V → Hp → VK → Prop := fun xs H Q => ∃ F ds, Ex F H ∧ AtCs K F H xs ds ∧ ok ds ∧ ∀ p vs, H p = none → AtAll K F vs (f ds) → Q (.ref p) (upd H p (.lst vs))
def itemsD : List D → List D
  | [.list a] => a
  | [.tuple a] => a
  | _ => []
theorem call_listU : CallR X (.type "list") (rDl X.K seqOk itemsD) := by
  intro pins s σ H xs us Q I r ⟨F, ds, e, ha, ok, k⟩
  match ds, ok, ha with
  | [.list a], _, .cons h1 .nil =>
    obtain ⟨p, vs, rfl, h2, h3⟩ := h1.lst e
    exact call_list_of pins s σ H _ us Q I r ⟨p, vs, rfl, .inl (.inl (.inl h2)), fun l hl => k l vs hl h3⟩
  | [.tuple a], _, .cons h1 .nil =>
    obtain ⟨p, vs, rfl, h2, _, h3⟩ := h1.tup e
    exact call_list_of pins s σ H _ us Q I r ⟨p, vs, rfl, .inr h2, fun l hl => k l vs hl h3⟩
def sortL : List D → List D
  | [.list ds] => (sortI ((intsOf ds).getD [])).map PyData.int
  | _ => []
theorem call_sortU : CallR X (.builtin "sorted") (rDl X.K sortOk sortL) := by
  intro pins s σ H xs us Q I r ⟨F, ds, e, ha, ok, k⟩
  match ds, ok, ha with
  | [.list ds], o2, .cons h1 .nil =>
    obtain ⟨p, vs, rfl, h2, h3⟩ := h1.lst e
    obtain ⟨ns, hn⟩ := Option.isSome_iff_exists.mp o2
    have ee := intsOf_eq hn
    subst ee
    rw [h3.ints] at h2
    refine cr_sortedI pins s σ H _ us Q I r ⟨p, ns, rfl, .inl (.inl h2), fun ns' q hp hs hq => ?_⟩
    have e1 : ns' = sortI ns := sorted_unique (hp.trans (sortI_perm ns).symm) hs (sortI_sorted ns)
    have : sortL [.list (ns.map PyData.int)] = (sortI ns).map PyData.int := by simp only [sortL, hn, Option.getD_some]
    rw [this] at k
    subst e1
    exact k q _ hq AtAll.of_ints
end
section
variable {K : PySem.W.Frag} {E : XK} {s s1 s2 s3 s' : S} {te ta tb ti : TE} {d x y : D} {σ : L2.St} {H F : Hp} {fp : Fp}
theorem ev_cl {ok : List D → Prop} {f : List D → List D} {t : TA} {ds : List D} (ha : EvA K t s ds s1) (h : ok ds) : Ev K (tCB (rDl K ok f) t) s (.list (f ds)) s1 := fun σ H F fp E Q q =>
  ha σ H F fp E _ fun vs H1 F1 fp1 E1 st1 a1 => ⟨F1, ds, E1.ex, AtCs.of a1, h, fun p ws hp hw => by
    have g : Grow F1 H1 (upd F1 p (.lst ws)) (upd H1 p (.lst ws)) := Grow.laid E1.ex hp
    exact q _ _ _ fp1 (E1.grow g) (st1.trans (E1.growS g)) (.lst upd_same (hw.ex g.f))⟩
theorem eo_cl {ok : List D → Prop} {f : List D → List D} {t : TA} {ds : List D} (ha : EvA K t s ds s1) (h : ok ds) : EvO K (tCB (rDl K ok f) t) s (lstR K none (f ds)) s1 := fun σ H F fp E Q q =>
  ha σ H F fp E _ fun vs H1 F1 fp1 E1 st1 a1 => ⟨F1, ds, E1.ex, AtCs.of a1, h, fun p ws hp hw =>
    q _ _ F1 fp1 (fun b => b = p) (E1.growH hp) (st1.trans (Step.growH hp)) ⟨p, ws, rfl, (fun _ z => nomatch z), fun _ => Iff.rfl, upd_same, hw⟩ (Own.laid E1 st1 hp)⟩
theorem ev_cl1 {ok : List D → Prop} {f : List D → List D} {i : Nat} {ov : Option V} {ds : List D} (hi : s.s[i]? = some (.res (lstR K ov ds))) (h : ok [.list ds]) : Ev K (tCB (rDl K ok f) (tCons (tVar i) tNil)) s (.list (f [.list ds])) s := fun σ H F fp E Q q => by
  obtain ⟨a, vs, h1, _, h4, h5⟩ := E.own hi
  exact ⟨.ref a, h1, F, [.list ds], E.ex, .cons (.inr ⟨_, _, _, rfl, rfl, h4, h5⟩) .nil, h, fun p ws hp hw => by
    have g : Grow F H (upd F p (.lst ws)) (upd H p (.lst ws)) := Grow.laid E.ex hp
    exact q _ _ _ fp (E.grow g) (E.growS g) (.lst upd_same (hw.ex g.f))⟩
theorem ev_lstRg {te : L2.St → Hp → (Int → Int → Hp → Prop) → Prop} {a b : Int} (h : ∀ σ H F fp, EnvW K σ s H F fp → ∀ Q : Int → Int → Hp → Prop, (∀ H' F' fp', EnvW K σ s1 H' F' fp' → Step H F fp H' F' fp' → Q a b H') → te σ H Q) (hr : RgOk a b) : Ev K (tLstRg te) s (.list (upTo a (b - a).toNat)) s1 := fun σ H F fp E Q q =>
  h σ H F fp E _ fun H1 F1 fp1 E1 st1 => ⟨hr, fun p hp => by
    have g : Grow F1 H1 (upd F1 p (.lst (rgV a b))) (upd H1 p (.lst (rgV a b))) := Grow.laid E1.ex hp
    refine q _ _ _ fp1 (E1.grow g) (st1.trans (E1.growS g)) (.lst upd_same ?_)
    have e1 : rgV a b = ((List.range (b - a).toNat).map fun (i : Nat) => a + (i : Int)).map V.int := by simp [rgV, Function.comp_def]
    have e2 : upTo a (b - a).toNat = ((List.range (b - a).toNat).map fun (i : Nat) => a + (i : Int)).map PyData.int := by simp [upTo, Function.comp_def]
    rw [e1, e2]
    exact AtAll.of_ints⟩
theorem ev_lstRg1 {n : Int} (h : Ev K ta s (.int n) s1) (hr : RgOk 0 n) : Ev K (tLstRg (tRg1 ta)) s (.list (upTo 0 n.toNat)) s1 := by
  have := ev_lstRg (K := K) (te := tRg1 ta) (s := s) (s1 := s1) (a := 0) (b := n) (fun σ H F fp E Q q => h σ H F fp E _ fun v H1 F1 fp1 E1 st1 a1 => by cases a1; exact ⟨n, rfl, q H1 F1 fp1 E1 st1⟩) hr
  simpa using this
theorem ev_lstRg2 {m n : Int} (h : Ev K ta s (.int m) s1) (h2 : Ev K tb s1 (.int n) s2) (hr : RgOk m n) : Ev K (tLstRg (tRg2 ta tb)) s (.list (upTo m (n - m).toNat)) s2 :=
  ev_lstRg (K := K) (te := tRg2 ta tb) (s := s) (s1 := s2) (a := m) (b := n) (fun σ H F fp E Q q => h σ H F fp E _ fun v H1 F1 fp1 E1 st1 a1 => h2 σ H1 F1 fp1 E1 _ fun w H2 F2 fp2 E2 st2 a2 => by cases a1; cases a2; exact ⟨m, n, rfl, rfl, q H2 F2 fp2 E2 (st1.trans st2)⟩) hr
/-! ### slices -/
def cutL {α : Type} (xs : List α) (lo hi : Option Int) : List α := (xs.drop (HT.sIx xs.length 0 lo)).take (HT.sIx xs.length xs.length hi - HT.sIx xs.length 0 lo)
theorem AtAll.cut {vs : List V} {ds : List D} {lo hi : Option Int} (h : AtAll K F vs ds) : AtAll K F (cutV vs lo hi) (cutL ds lo hi) := by
  unfold cutV cutL
  rw [h.length]
  exact (h.drop _).take _
def slOk : D → Prop
  | .list _ => True
  | .dict [(.none, .list ds)] => (intsOf ds).isSome = true
  | .tuple _ => True
  | .str z => z.length ≤ sizeLine
  | _ => False
def slD (lo hi : Option Int) : D → D
  | .list a => .list (cutL a lo hi)
  | .dict [(.none, .list a)] => .list (cutL a lo hi)
  | .tuple a => .tuple (cutL a lo hi)
  | .str z => .str (cutS z lo hi)
  | _ => .none
def rSlU (K : PySem.W.Frag) : V → Option Int → Option Int → Hp → VK → Prop := fun x lo hi H Q => ∃ F dx, Ex F H ∧ AtC K F H x dx ∧ slOk dx ∧ ∀ v H' F', Grow F H F' H' → At K F' v (slD lo hi dx) → Q v H'
theorem cut_whole {α : Type} {xs : List α} {lo hi : Option Int} (h : HT.sIx xs.length 0 lo = 0 ∧ HT.sIx xs.length xs.length hi = xs.length) : cutL xs lo hi = xs := by
  unfold cutL
  rw [h.1, h.2]; simp
theorem sl_U {X : Cx} : SlR X (rSlU X.K) := by
  intro pins s σ H x v vl vu lo hi sl Q I rx hs pl pu ⟨F, dx, e, hx, ok, k⟩
  match dx, ok with
  | .dict [(.none, .list a)], o1 =>
    obtain ⟨ns, hn⟩ := Option.isSome_iff_exists.mp o1
    have ee := intsOf_eq hn
    subst ee
    obtain ⟨p, rfl, h1⟩ := hx.scr e
    refine sl_list pins s σ H _ v vl vu lo hi sl Q I rx hs pl pu ⟨p, _, rfl, h1, fun q hq => ?_⟩
    have g := Grow.laid (o := .lst (cutV (ns.map V.int) lo hi)) e hq
    exact k _ _ _ g (.lst upd_same ((AtAll.of_ints (K := X.K) (F := F)).cut.ex g.f))
  | .list a, _ =>
    obtain ⟨p, vs, rfl, h1, h2⟩ := hx.lst e
    refine sl_list pins s σ H _ v vl vu lo hi sl Q I rx hs pl pu ⟨p, vs, rfl, .inl (.inl h1), fun q hq => ?_⟩
    have g := Grow.laid (o := .lst (cutV vs lo hi)) e hq
    exact k _ _ _ g (.lst upd_same (h2.cut.ex g.f))
  | .tuple a, _ =>
    obtain ⟨p, vs, rfl, h1, h1', h2⟩ := hx.tup e
    refine sl_tupA pins s σ H _ v vl vu lo hi sl Q I rx hs pl pu ⟨p, vs, rfl, h1, fun z => ?_, fun z q hq => ?_⟩
    · have : slD lo hi (.tuple a) = .tuple a := by
        show PyData.tuple (cutL a lo hi) = .tuple a
        rw [h2.length] at z
        rw [cut_whole z]
      rw [this] at k
      exact k _ H F (Grow.refl e) (.tup h1' h2)
    · have g := Grow.laid (o := .tup (cutV vs lo hi)) e hq
      exact k _ _ _ g (.tup (.inl (.inl upd_same)) (h2.cut.ex g.f))
  | .str z, ok =>
    have q1 := hx.str
    subst q1
    exact sl_str pins s σ H _ v vl vu lo hi sl Q I rx hs pl pu ⟨z, rfl, ok, k _ H F (Grow.refl e) (.str _)⟩
def EvP (K : PySem.W.Frag) (to : TO) (s : S) (o : Option Int) (s' : S) : Prop := ∀ σ H F fp, EnvW K σ s H F fp → ∀ Q : Option Int → Hp → Prop, (∀ H' F' fp', EnvW K σ s' H' F' fp' → Step H F fp H' F' fp' → Q o H') → to σ H Q
theorem ep_none : EvP K tNoPart s none s := fun σ H F fp E Q q => q H F fp E (Step.refl _ _ _)
theorem ep_some {i : Int} (h : Ev K te s (.int i) s1) : EvP K (tPart te) s (some i) s1 := fun σ H F fp E Q q =>
  h σ H F fp E _ fun v H1 F1 fp1 E1 st1 a1 => by cases a1; exact ⟨i, rfl, q H1 F1 fp1 E1 st1⟩
theorem ev_sl {tl th : TO} {lo hi : Option Int} (h : Ev K te s d s1) (h1 : EvP K tl s1 lo s2) (h2 : EvP K th s2 hi s3) (ok : slOk d) : Ev K (tSl (rSlU K) te tl th) s (slD lo hi d) s3 := fun σ H F fp E Q q =>
  h σ H F fp E _ fun v H1 F1 fp1 E1 st1 a1 => h1 σ H1 F1 fp1 E1 _ fun H2 F2 fp2 E2 st2 => h2 σ H2 F2 fp2 E2 _ fun H3 F3 fp3 E3 st3 =>
    ⟨F3, d, E3.ex, .inl ((a1.ex st2.ex).ex st3.ex), ok, fun v H' F' g a => q v H' F' fp3 (E3.grow g) (((st1.trans st2).trans st3).trans (E3.growS g)) a⟩
/-- of an owned list -/
theorem ev_slO {tl th : TO} {lo hi : Option Int} {i : Nat} {ov ov' : Option V} {ds ds' : List D} (h : s.s[i]? = some (.res (lstR K ov ds))) (h1 : EvP K tl s lo s2) (h2 : EvP K th s2 hi s3) (h3 : s3.s[i]? = some (.res (lstR K ov' ds'))) : Ev K (tSl (rSlU K) (tVar i) tl th) s (.list (cutL ds' lo hi)) s3 := fun σ H F fp E Q q => by
  obtain ⟨a, vs, e1, _⟩ := E.own h
  refine ⟨.ref a, e1, h1 σ H F fp E _ fun H2 F2 fp2 E2 st2 => h2 σ H2 F2 fp2 E2 _ fun H3 F3 fp3 E3 st3 => ?_⟩
  obtain ⟨a', vs', e1', _, h4, h5⟩ := E3.own h3
  rw [e1] at e1'
  cases e1'
  exact ⟨F3, .list ds', E3.ex, .inr ⟨_, _, _, rfl, rfl, h4, h5⟩, trivial, fun v H' F' g a => q v H' F' fp3 (E3.grow g) ((st2.trans st3).trans (E3.growS g)) a⟩
/-! ### owned lists are changed -/
theorem EnvW.put {i : Nat} {ov : Option V} {ds ds' : List D} {a : Addr} {vs' : List V} (E : EnvW K σ s H F fp) (hi : s.s[i]? = some (.res (lstR K ov ds))) (hσ : σ[i]? = some (some (.ref a))) (hv : AtAll K F vs' ds') :
    EnvW K σ (s.set i (.res (lstR K ov ds'))) (upd H a (.lst vs')) F fp ∧ Step H F fp (upd H a (.lst vs')) F fp := by
  obtain ⟨a', vs, h1, h2, h3, h4, h5⟩ := E.sl i _ hi
  rw [hσ] at h1
  cases h1
  have hfa : fp (.inl i) a := (h3 a).mpr rfl
  have hil : i < s.s.length := (List.getElem?_eq_some_iff.mp hi).1
  refine ⟨⟨fun b u q => ?_, by simp [S.set, E.len], fun j y hj => ?_, tabs_mut E.tb h4, E.dj, E.nf, fun j b h => ?_, E.nt⟩, ⟨Ex.refl F, fun _ h _ _ => h, fun b o h1 _ h2 => ?_, fun j b h => .inl ⟨j, h⟩, mut_ext h4⟩⟩
  · rw [upd_ne (ne_of_none q (E.nf _ a hfa))]; exact E.ex b u q
  · by_cases z : j = i
    · subst z
      have e1 : (s.s.set j (.res (lstR K ov ds')))[j]? = some (.res (lstR K ov ds')) := List.getElem?_set_self hil
      rw [show (s.set j (.res (lstR K ov ds'))).s = s.s.set j (.res (lstR K ov ds')) from rfl, e1] at hj
      cases hj
      exact ⟨a, vs', hσ, h2, h3, upd_same, hv⟩
    · have e1 : (s.s.set i (.res (lstR K ov ds')))[j]? = s.s[j]? := List.getElem?_set_ne (Ne.symm z)
      rw [show (s.set i (.res (lstR K ov ds'))).s = s.s.set i (.res (lstR K ov ds')) from rfl, e1] at hj
      exact (E.sl j y hj).mono (Ex.refl F) (fun b hb => upd_ne fun q => E.dj (.inl j) (.inl i) b (by intro w; cases w; exact z rfl) hb (q ▸ hfa)) (mut_ext h4)
  · by_cases z : b = a
    · subst z; exact ⟨_, upd_same, by intro ps z; cases z⟩
    · obtain ⟨o, q, n⟩ := E.th j b h; exact ⟨o, by rw [upd_ne z]; exact q, n⟩
  · have : b ≠ a := fun q => h2 (.inl i) (q ▸ hfa)
    rw [upd_ne this]; exact h1
/-- xs.append(e) -/
theorem run_append {i : Nat} {ov ov' : Option V} {ds ds' : List D} (hi : s.s[i]? = some (.res (lstR K ov ds))) (h : Ev K te s d s1) (hi1 : s1.s[i]? = some (.res (lstR K ov' ds'))) (hz : ds'.length < sizeLine) :
    Run K E (tDrop (tBM K "list" rAppend (tVar i) (tCons te tNil))) s (.nx (s1.set i (.res (lstR K ov' (ds' ++ [d]))))) := fun σ H F fp e Ed q => by
  obtain ⟨a, vs, h1, _, h4, h5⟩ := e.own hi
  refine ⟨.ref a, h1, .inl ⟨rfl, _, .inl (.inl h4)⟩, h σ H F fp e _ fun v H1 F1 fp1 e1 st1 a1 => ?_⟩
  obtain ⟨a', vs', h1', _, h4', h5'⟩ := e1.own hi1
  rw [h1] at h1'
  cases h1'
  refine ⟨a, vs', v, rfl, rfl, h4', by rw [h5'.length]; exact hz, ?_⟩
  obtain ⟨e2, st2⟩ := e1.put hi1 h1 (h5'.snoc a1)
  exact q σ _ F1 fp1 e2 (st1.trans st2)
/-- xs[k] = e -/
theorem run_setL {i j : Nat} {ov ov' : Option V} {ds ds' : List D} {k : Int} (h : Ev K te s d s1) (hi : s1.s[i]? = some (.res (lstR K ov ds))) (hk : Ev K ti s1 (.int k) s2) (hi2 : s2.s[i]? = some (.res (lstR K ov' ds'))) (hj : ixN ds'.length k = some j) :
    Run K E (tAsg te (gSub (tVar i) ti rSetL)) s (.nx (s2.set i (.res (lstR K ov' (ds'.set j d))))) := fun σ H F fp e Ed q =>
  h σ H F fp e _ fun v H1 F1 fp1 e1 st1 a1 => by
    obtain ⟨a, vs, h1, _⟩ := e1.own hi
    refine ⟨.ref a, h1, hk σ H1 F1 fp1 e1 _ fun w H2 F2 fp2 e2 st2 a2 => ?_⟩
    cases a2
    obtain ⟨a', vs', h1', _, h4', h5'⟩ := e2.own hi2
    rw [h1] at h1'
    cases h1'
    refine ⟨a, vs', k, j, rfl, rfl, h4', by rw [h5'.length]; exact hj, ?_⟩
    obtain ⟨e3, st3⟩ := e2.put hi2 h1 (AtAll.set (a1.ex st2.ex) j h5')
    exact q σ _ F2 fp2 e3 ((st1.trans st2).trans st3)
/-- return xs, xs owned -/
theorem run_retV {i : Nat} {r : Rs} (hi : s.s[i]? = some (.res r)) (hp : ∀ {F H : Hp} {P : Addr → Prop} {sv : Option (Option V)}, r.ok F H P sv → ∃ v, sv = some (some v)) : Run K E (tRet (tVar i)) s (.ro r (s.set i .unk)) := fun σ H F fp e Ed q => by
  have h := e.sl i _ hi
  obtain ⟨v, hv⟩ := hp h
  refine ⟨v, hv, q σ v H F (fpSet fp (.inl i) noP) (fp (.inl i)) ?_ Step.drop (by rw [← hv]; exact h) ⟨fun b hb => e.nf _ b hb, fun b j hb hj => ?_, fun b hb => e.th _ b hb, fun b hb => .inl ⟨_, hb⟩⟩⟩
  · have hil : i < s.s.length := (List.getElem?_eq_some_iff.mp hi).1
    refine ⟨e.ex, by simp [S.set, e.len], fun j y hj => ?_, e.tb, fun j k b hjk h1 h2 => ?_, fun j b h1 => ?_, fun j b h1 => ?_, e.nt⟩
    · by_cases z : j = i
      · subst z
        have e1 : (s.s.set j .unk)[j]? = some .unk := List.getElem?_set_self hil
        rw [show (s.set j .unk).s = s.s.set j .unk from rfl, e1] at hj
        cases hj; trivial
      · have e1 : (s.s.set i .unk)[j]? = s.s[j]? := List.getElem?_set_ne (Ne.symm z)
        rw [show (s.set i .unk).s = s.s.set i .unk from rfl, e1] at hj
        rw [fpSet_ne (by intro q; cases q; exact z rfl)]
        exact e.sl j y hj
    · by_cases z : j = .inl i
      · subst z; rw [fpSet_same] at h1; exact h1
      · rw [fpSet_ne z] at h1
        by_cases y : k = .inl i
        · subst y; rw [fpSet_same] at h2; exact h2
        · rw [fpSet_ne y] at h2; exact e.dj j k b hjk h1 h2
    · by_cases z : j = .inl i
      · subst z; rw [fpSet_same] at h1; exact h1.elim
      · rw [fpSet_ne z] at h1; exact e.nf j b h1
    · by_cases z : j = .inl i
      · subst z; rw [fpSet_same] at h1; exact h1.elim
      · rw [fpSet_ne z] at h1; exact e.th j b h1
  · by_cases z : j = .inl i
    · subst z; rw [fpSet_same] at hj; exact hj
    · rw [fpSet_ne z] at hj; exact e.dj j (.inl i) b z hj hb
theorem lst_has {ov : Option V} {ds : List D} {P : Addr → Prop} {sv : Option (Option V)} (h : (lstR K ov ds).ok F H P sv) : ∃ v, sv = some (some v) := by
  obtain ⟨a, vs, h1, _⟩ := h
  exact ⟨_, h1⟩
/-! ### isinstance -/
def tyD : D → String
  | .none => "NoneType"
  | .bool _ => "bool"
  | .int _ => "int"
  | .str _ => "str"
  | .list _ => "list"
  | .tuple _ => "tuple"
  | .dict _ => "dict"
def isiD (n : String) (d : D) : Bool := match n, d with
  | "int", .int _ => true
  | "int", .bool _ => true
  | "bool", .bool _ => true
  | "str", .str _ => true
  | "tuple", .tuple _ => true
  | "list", .list _ => true
  | "dict", .dict _ => true
  | _, _ => false
def kitAll (n : String) : Bool := kitB "NoneType" n == some (n == "NoneType") && (kitB "bool" n == some (n == "bool" || n == "int") && (kitB "int" n == some (n == "int") && (kitB "str" n == some (n == "str") && (kitB "list" n == some (n == "list") && (kitB "tuple" n == some (n == "tuple") && kitB "dict" n == some (n == "dict"))))))
theorem kit_int : kitAll "int" = true := by decide +kernel
theorem kit_bool : kitAll "bool" = true := by decide +kernel
theorem kit_str : kitAll "str" = true := by decide +kernel
theorem kit_tuple : kitAll "tuple" = true := by decide +kernel
theorem kit_dict : kitAll "dict" = true := by decide +kernel
def noScr : D → Bool
  | .dict ((.none, _) :: _) => false
  | .dict ((.bool _, _) :: _) => false
  | _ => true
theorem at_ty {v : V} {d : D} (e : Ex F H) (h : At K F v d) (hn : noScr d = true) : TyX K H v (.type (tyD d)) := by
  cases h with
  | non => exact .base .non
  | bl b => exact .base (.bl b)
  | int i => exact .base (.int i)
  | str x => exact .base (.str x)
  | lst h t => exact .base (.lst (e _ _ h))
  | tup h t =>
    rcases e.sqT h with (h | ⟨o, h⟩) | ⟨o, its, n, h1, h2, _⟩
    · exact .base (.tup h)
    · exact .fTuple h
    · exact .kTuple h1 h2
  | dic h t =>
    exact .base (.dK (e _ _ h))
  | scr h => cases hn
  | obj h1 h2 t => cases hn
  | zic h t => cases hn
theorem ev_isi {n : String} (h : Ev K te s d s1) (hk : kitAll n = true) (hn : noScr d = true) (b : Bool) (hb : (match d with | .none => n == "NoneType" | .bool _ => (n == "bool" || n == "int") | .int _ => n == "int" | .str _ => n == "str" | .list _ => n == "list" | .tuple _ => n == "tuple" | .dict _ => n == "dict") = b) : Ev K (tCB (rIsi K) (tCons te (tCons (tC (.ty n)) tNil))) s (.bool b) s1 := fun σ H F fp E Q q =>
  h σ H F fp E _ fun v H1 F1 fp1 E1 st1 a1 => by
    refine ⟨v, .ty n, .type (tyD d), .type n, b, rfl, .ty n, at_ty E1.ex a1 hn, kit_ty ?_, q _ H1 F1 fp1 E1 st1 (.bl _)⟩
    simp only [kitAll, Bool.and_eq_true, beq_iff_eq] at hk
    obtain ⟨k1, k2, k3, k4, k5, k6, k7⟩ := hk
    subst hb
    cases d <;> assumption
end
end DL

namespace DL
open PySem PySem.Spec PyProof.Rows L2
section
variable {K : PySem.W.Frag} {E : XK} {s s1 s2 s' : S} {te : TE} {d : D} {σ : L2.St} {H F H1 : Hp} {fp : Fp} {C : Addr} {fl ret : Str} {t : XK → TE}
/-! ### lambdas: their tables turn, all else stays -/
theorem EnvW.lam (e : EnvW K σ s H F fp) (eN : LamX.ExtN H H1) (T1 : LamX.Tabs s.g H1) : EnvW K σ s H1 F fp ∧ Step H F fp H1 F fp := by
  have xk : ExtKeep H H1 := fun b φ h => eN b _ h (by intro ps z; cases z)
  have lv : ∀ b, Live H b → H1 b = H b := fun b ⟨o, q, n⟩ => by rw [q, eN b o q n]
  exact ⟨⟨fun a u q => eN a u (e.ex a u q) (e.nt a u q), e.len, fun i x h => (e.sl i x h).mono (Ex.refl F) (fun b hb => lv b (e.th _ b hb)) xk, T1, e.dj, e.nf, fun i b h => by
      obtain ⟨o, q, n⟩ := e.th i b h; exact ⟨o, eN b o q n, n⟩, e.nt⟩,
    ⟨Ex.refl F, fun _ h _ _ => h, fun b o h n _ => eN b o h n, fun i b h => .inl ⟨i, h⟩, xk⟩⟩
theorem ev_lamX (h : ∀ E, EvR K E (t E) s C fl d s') : Ev K (LamX.tLam s.g (BX.TRef K C fl ret) t) s d s' := fun σ H F fp e Q q =>
  ⟨e.tb, fun H1 eN T1 => by
    obtain ⟨e1, st1⟩ := e.lam eN T1
    exact h _ σ H1 F fp e1 _ fun dd v H' F' fp' e' st' a b => ⟨rfl, dd, [(fl, v)], v, rfl, e'.ex _ _ a, by simp [List.lookup], q v H' F' fp' e' (st1.trans st') b⟩⟩
theorem ev_lamR (h : ∀ E, Ev K (t E) s d s') : Ev K (LamX.tLam s.g (BX.TRef K C fl ret) t) s (.str ret) s' := fun σ H F fp e Q q =>
  ⟨e.tb, fun H1 eN T1 => by
    obtain ⟨e1, st1⟩ := e.lam eN T1
    exact h _ σ H1 F fp e1 _ fun v H' F' fp' e' st' a => q _ H' F' fp' e' (st1.trans st') (.str ret)⟩
end
end DL

namespace DL
open PySem PySem.Spec PyProof.Rows L2
/-! ### calls with keywords: p puts the values in the parameters' order -/
def arr {α : Type} (x : α) (p : List Nat) (l : List α) : List α := p.map fun i => l.getD i x
structure KwB (K : PySem.W.Frag) (fd : FuncData) (ps ks : List Str) (n : Nat) (p : List Nat) : Prop where
  to : ∀ (s : Shared) (us ws : List Value), us.length = n → ws.length = ks.length → BindsTo s fd ⟨us, ks.zip ws⟩ (ps.zip (arr .none p (us ++ ws)))
  lt : ∀ i ∈ p, i < n + ks.length
  len : p.length = ps.length
def tCallM (sp : Sp) (n m : Nat) (p : List Nat) (E : XK) (t tk : TA) : TE := fun σ H Q => t σ H fun vs H1 => tk σ H1 fun zs H2 => vs.length = n ∧ zs.length = m ∧ sp (arr .non p (vs ++ zs)) H2 Q E
theorem vals_arr {vs : List V} {us : List Value} (r : Vals vs us) : ∀ {p : List Nat}, (∀ i ∈ p, i < vs.length) → Vals (arr .non p vs) (arr .none p us)
  | [], _ => .nil
  | i :: p, h => by
    have hi : i < vs.length := h i (List.mem_cons_self)
    have hi2 : i < us.length := by rw [← r.length]; exact hi
    refine .cons ?_ (vals_arr r fun j hj => h j (List.mem_cons_of_mem _ hj))
    obtain ⟨u, h1, h2⟩ := r.get (i := i) (x := vs[i]) (by simp [hi])
    have e1 : vs.getD i .non = vs[i] := by simp [List.getD, hi]
    have e2 : us.getD i .none = u := by simp [List.getD, h1]
    show L2.RelV (vs.getD i .non) (us.getD i .none)
    rw [e1, e2]; exact h2
theorem atAll_arr {K : PySem.W.Frag} {F : Hp} {vs : List V} {ds : List D} (r : AtAll K F vs ds) : ∀ {p : List Nat}, (∀ i ∈ p, i < vs.length) → AtAll K F (arr .non p vs) (arr .none p ds)
  | [], _ => .nil
  | i :: p, h => by
    have hi : i < vs.length := h i (List.mem_cons_self)
    refine .cons ?_ (atAll_arr r fun j hj => h j (List.mem_cons_of_mem _ hj))
    obtain ⟨d, h1, h2⟩ := r.getV (i := i) (v := vs[i]) (by simp [hi])
    have e1 : vs.getD i .non = vs[i] := by simp [List.getD, hi]
    have e2 : ds.getD i .none = d := by simp [List.getD, h1]
    show At K F (vs.getD i .non) (ds.getD i .none)
    rw [e1, e2]; exact h2
section
variable {X : Cx} {CX : CXT} {k n : Nat} {f : Addr} {fd : FuncData} {ps ks : List Str} {sp : Sp} {E : XK} {x : Str} {p pos : Pos} {e : Expr} {es : List Expr} {kws : List Keyword} {t tk : TA} {pm : List Nat}
theorem run_fnM {pins : List (Addr × Obj)} {σ : L2.St} {H : Hp} {s : Shared} {Q : VK} {us ws : List Value} {vs zs : List V} (F : FnOk X.prog X.w X.K X.mg X.base CX k f fd ps sp) (hr : Room k X.A) (hb : KwB X.K fd ps ks n pm) (hx : Passes CX X E)
    (I : Inv X pins σ H s) (r : Vals vs us) (rz : Vals zs ws) (l1 : vs.length = n) (l2 : zs.length = ks.length) (h : sp (arr .non pm (vs ++ zs)) H Q E) : wpAny (model X.prog X.w) X.A (call (.ref f) us (ks.zip ws)) (EP X pins σ Q) X.xe s := by
  have r2 := vals_arr (p := pm) (r.append rz) (fun i hi => by rw [List.length_append, l1, l2]; exact hb.lt i hi)
  refine wpAny_call (codeAny_mono (F.run X.A X.stack s H ⟨us, ks.zip ws⟩ _ _ Q E hr I.env0 (hb.to s us ws (r.length.symm.trans l1) (rz.length.symm.trans l2)) r2 h) fun r s' hq => ?_)
  cases r with
  | error e => exact hx pins σ H s e s' I hq
  | ok fl =>
    cases fl with
    | ret u => exact I.after hq
    | next => exact False.elim hq
    | brk => exact False.elim hq
    | cont => exact False.elim hq
theorem pe_callM (F : FnOk X.prog X.w X.K X.mg X.base CX k f fd ps sp) (hr : Room k X.A) (hg : Gl X x) (hm : X.mg x = some (.ref f)) (hk : PySem.W.keepIn X.K (.ref f) = true) (hb : KwB X.K fd ps ks n pm) (hx : Passes CX X E)
    (ha : PA X (e :: es) t) (hkw : PK X kws tk) (hall : (backToKw pos (keywordEach kws X.env)).all (·.1.isSome) = true := by rfl) (hks : (backToKw pos (keywordEach kws X.env)).filterMap (·.1) = ks := by rfl)
    (hdb : (x == ("__debug__" : Str)) = false := by decide) (he : starEach (e :: es) X.env = (false, eval e X.env) :: starEach es X.env := by rfl)
    (hpl : ((backTo pos (starEach (e :: es) X.env)).any (·.1) || (backToKw pos (keywordEach kws X.env)).any (·.1.isNone)) = false := by rfl)
    {m : Nat} (hl : ks.length = m := by rfl) : PE X (.Call (.Name x p) (e :: es) kws pos) (tCallM sp n m pm E t tk) := by
  subst hl
  refine ⟨fun pins s σ H Q I h => ?_⟩
  refine wpAny_Call_Name_kw (ld_glob I hg hm ?_ hdb)
  refine PySem.W.callWith_KW (h₀ := X.base) I.ok.mod.kin hk hall (thn (ha.run pos pins s σ H _ I h) fun us s1 ⟨vs, H1, I1, r, q⟩ => ?_) hpl he
  refine thn (hkw.run pos pins s1 σ H1 _ I1 q) fun ws s2 ⟨zs, H2, I2, rz, l1, l2, q2⟩ => ⟨I2.kIn, ?_⟩
  rw [hks]
  exact run_fnM F hr hb hx I2 r rz l1 l2 q2
theorem pe_callM0 (F : FnOk X.prog X.w X.K X.mg X.base CX k f fd ps sp) (hr : Room k X.A) (hg : Gl X x) (hm : X.mg x = some (.ref f)) (hk : PySem.W.keepIn X.K (.ref f) = true) (hb : KwB X.K fd ps ks 0 pm) (hx : Passes CX X E)
    (hkw : PK X kws tk) (hall : (backToKw pos (keywordEach kws X.env)).all (·.1.isSome) = true := by rfl) (hks : (backToKw pos (keywordEach kws X.env)).filterMap (·.1) = ks := by rfl)
    (hdb : (x == ("__debug__" : Str)) = false := by decide)
    (hpl : ((backTo pos (starEach [] X.env)).any (·.1) || (backToKw pos (keywordEach kws X.env)).any (·.1.isNone)) = false := by rfl)
    {m : Nat} (hl : ks.length = m := by rfl) : PE X (.Call (.Name x p) [] kws pos) (tCallM sp 0 m pm E tNil tk) := by
  subst hl
  refine ⟨fun pins s σ H Q I h => ?_⟩
  refine wpAny_Call_Name_kw (ld_glob I hg hm ?_ hdb)
  refine PySem.W.callWith_KW0 (h₀ := X.base) I.ok.mod.kin hk hall ?_ hpl
  refine thn (hkw.run pos pins s σ H _ I h) fun ws s2 ⟨zs, H2, I2, rz, l1, l2, q2⟩ => ⟨I2.kIn, ?_⟩
  rw [hks]
  exact run_fnM F hr hb hx I2 .nil rz l1 l2 q2
end
section
variable {K : PySem.W.Frag} {E : XK} {s s1 s2 s' : S} {te : TE} {d : D}
theorem ev_callM {R : FR} {ta tk : TA} {ds es : List D} {n m : Nat} {p : List Nat} (ha : EvA K ta s ds s1) (hk : EvA K tk s1 es s2) (hn : ds.length = n) (hm : es.length = m) (hp : ∀ i ∈ p, i < n + m) (hR : R ⟨(arr .none p (ds ++ es)).map .dat, s2.g⟩ (.rt d ⟨(arr .none p (ds ++ es)).map .dat, s2.g⟩)) : Ev K (tCallM (spF K R) n m p E ta tk) s d s2 := fun σ H F fp e Q q =>
  ha σ H F fp e _ fun vs H1 F1 fp1 e1 st1 a1 => hk σ H1 F1 fp1 e1 _ fun zs H2 F2 fp2 e2 st2 a2 => by
    have l1 := a1.length
    have l2 := a2.length
    refine ⟨by omega, by omega, _, F2, noF, _, env_dat e2 (atAll_arr ((a1.ex st2.ex).append a2) fun i hi => by have := hp i hi; rw [List.length_append]; omega), hR, fun v H' F' fp' e' st a => ?_⟩
    obtain ⟨e3, st3⟩ := frame0 e2 e' st rfl
    exact q v H' F' fp2 e3 ((st1.trans st2).trans st3) a
/-- *xs in a display -/
theorem ea_starT {tr : TA} {xs ds : List D} (h : Ev K te s (.tuple xs) s1) (hr : EvA K tr s1 ds s2) : EvA K (StX.tStar K te tr) s (xs ++ ds) s2 := fun σ H F fp E Q q =>
  h σ H F fp E _ fun v H1 F1 fp1 E1 st1 a1 => by
    cases a1 with
    | tup h1 h2 => exact ⟨_, _, rfl, .inl (E1.ex.sqT h1), hr σ H1 F1 fp1 E1 _ fun vs H2 F2 fp2 E2 st2 a2 => q _ H2 F2 fp2 E2 (st1.trans st2) ((h2.ex st2.ex).append a2)⟩
end
/-! ### what passes a def, a lambda, a block -/
theorem pass_e {X : Cx} {E : XK} (tk : Takes X (fun cls d _ H => E cls d H)) : Passes (L2.CX X.prog X.w) X E := passes_call tk fun _ _ _ _ h => h
/-- a def whose code object is known -/
structure FunC (K : PySem.W.Frag) (x qual : Str) (st : Stmt) (f : Addr) (fd : FuncData) (c : Addr) : Prop where
  ex : ∃ (oc : Value) (od : Option Addr) (kV doc pm : Value) (an : Option Addr) (ct : Value) (osl : Array (Option Value)),
    fd = PySem.W.fnOf x qual (defArgs st) (defBody st) (defScope st) .none kV doc pm an (.ref c) ct ∧ K.lookup f = some ⟨oc, od, .func fd, osl⟩ ∧ PySem.W.codeIn K (.ref c) qual = true
  kp : PySem.W.keepIn K (.ref f) = true
theorem FunC.toFun {K : PySem.W.Frag} {x qual : Str} {st : Stmt} {f : Addr} {fd : FuncData} {c : Addr} (F : FunC K x qual st f fd c) : Fun K x qual st f fd := by
  obtain ⟨oc, od, kV, doc, pm, an, ct, osl, h1, h2, h3⟩ := F.ex
  exact ⟨⟨oc, od, kV, doc, pm, an, .ref c, ct, osl, h1, h2, h3⟩, F.kp⟩
section
variable {P : Program} {w : World} {K : PySem.W.Frag} {mg : Str → Option Value} {base : Heap}
theorem FunC.okX {x qual : Str} {st : Stmt} {f : Addr} {fd : FuncData} {c : Addr} {N ps : List Str} {k : Nat} {sp : Sp} (F : FunC K x qual st f fd c) (S : FnScope N ps (defScope st)) (len : ∀ vs H Q E, sp vs H Q E → vs.length = ps.length)
    (hbody : ∀ (A : Around) (outer : List Env) (s : Shared) (H : Hp) (vs : List V) (Q : VK) (E : XK), Room k (A.deeper (envOfC qual (defScope st) s.heap.objs.size f (.ref c))) → sp vs H Q E →
      ∃ t, PSs (cxOf (L2.CX P w) P w K mg base N qual (defScope st) f (.ref c) A outer s H E) (defBody st) t ∧ t { nx := fun _ H' => Q .non H', rt := Q } (L2.start N vs) H) : FnOk P w K mg base (L2.CX P w) (k + 1) f fd ps sp := by
  obtain ⟨oc, od, kV, doc, pm, an, ct, osl, rfl, lk, hcd⟩ := F.ex
  exact fn_of lk hcd S len fun A outer s H vs Q E hr hsp => hbody A outer s H vs Q E hr hsp
end
end DL

namespace DL
open PySem PySem.Spec PyProof.Rows L2
theorem hu65 {X : Cx} {k : Nat} (hr : Room k X.A) : X.A.units + 65 < cLine := by have := hr.un; omega
/-! ### argument lists with owned things -/
structure OwnL (H : Hp) (fp : Fp) (H' F' : Hp) (fp' : Fp) (P : Nat → Addr → Prop) : Prop where
  own : ∀ i, Own H fp H' F' fp' (P i)
  dj : ∀ i j b, i ≠ j → P i b → ¬ P j b
def EvX (K : PySem.W.Frag) (ta : TA) (s : S) (xs : List Sl) (s' : S) : Prop := ∀ σ H F fp, EnvW K σ s H F fp → ∀ Q : List V → Hp → Prop,
  (∀ vs H' F' fp' P, EnvW K σ s' H' F' fp' → Step H F fp H' F' fp' → vs.length = xs.length → (∀ (i : Nat) (x : Sl), xs[i]? = some x → SlOk K F' H' (P i) (vs[i]?.map some) x) → OwnL H fp H' F' fp' P → Q vs H') → ta σ H Q
theorem Own.none {H F H' : Hp} {fp fp' : Fp} : Own H fp H' F fp' noP := ⟨fun _ h => h.elim, fun _ _ h => h.elim, fun _ h => h.elim, fun _ h => h.elim⟩
section
variable {K : PySem.W.Frag} {E : XK} {s s1 s2 s' : S} {te : TE} {d : D} {o : Out} {t : TS} {σ : L2.St} {H F : Hp} {fp : Fp}
theorem ex_nil : EvX K tNil s [] s := fun σ H F fp e Q q => q [] H F fp (fun _ => noP) e (Step.refl _ _ _) rfl (fun i x h => by simp at h) ⟨fun _ => Own.none, fun _ _ _ _ h => h.elim⟩
theorem ex_dat {tr : TA} {xs : List Sl} (h : Ev K te s d s1) (hr : EvX K tr s1 xs s2) : EvX K (tCons te tr) s (.dat d :: xs) s2 := fun σ H F fp e Q q =>
  h σ H F fp e _ fun v H1 F1 fp1 e1 st1 a1 => hr σ H1 F1 fp1 e1 _ fun vs H2 F2 fp2 P e2 st2 l2 hx ol => by
    refine q (v :: vs) H2 F2 fp2 (fun i => match i with | 0 => noP | i + 1 => P i) e2 (st1.trans st2) (by simp [l2]) (fun i x hi => ?_) ⟨fun i => ?_, fun i j b hij hi hj => ?_⟩
    · cases i with
      | zero => simp at hi; subst hi; exact ⟨v, rfl, a1.ex st2.ex⟩
      | succ i => exact hx i x (by simpa using hi)
    · cases i with
      | zero => exact Own.none
      | succ i => exact (ol.own i).step st1
    · cases i with
      | zero => exact hi.elim
      | succ i => cases j with
        | zero => exact hj.elim
        | succ j => exact ol.dj i j b (fun z => hij (by rw [z])) hi hj
theorem ex_res {tr : TA} {xs : List Sl} {r : Rs} (h : EvO K te s r s1) (hr : EvX K tr s1 xs s2) : EvX K (tCons te tr) s (.res r :: xs) s2 := fun σ H F fp e Q q =>
  h σ H F fp e _ fun v H1 F1 fp1 P1 e1 st1 a1 o1 => hr σ H1 F1 fp1 e1 _ fun vs H2 F2 fp2 P e2 st2 l2 hx ol => by
    have nfp : ∀ b, P1 b → ∀ i, ¬ fp2 i b := fun b hb i hi => by
      rcases st2.fpn i b hi with ⟨j, hj⟩ | hn
      · exact o1.dj b j hb hj
      · exact hn (o1.th b hb)
    have keep : ∀ b, P1 b → H2 b = H1 b := fun b hb => by
      obtain ⟨u, hu, hn⟩ := o1.th b hb
      rw [st2.keep b u hu hn (o1.dj b · hb), hu]
    have oP : Own H fp H2 F2 fp2 P1 := ⟨fun b hb => st2.new b (o1.nf b hb) (o1.th b hb) (o1.dj b · hb), fun b i hb => nfp b hb i, fun b hb => st2.live (o1.th b hb) (o1.dj b · hb), o1.new⟩
    have dj : ∀ i b, P1 b → ¬ P i b := fun i b h1 h2 => by
      rcases (ol.own i).new b h2 with ⟨j, hj⟩ | hn
      · exact o1.dj b j h1 hj
      · exact hn (o1.th b h1)
    refine q (v :: vs) H2 F2 fp2 (fun i => match i with | 0 => P1 | i + 1 => P i) e2 (st1.trans st2) (by simp [l2]) (fun i x hi => ?_) ⟨fun i => ?_, fun i j b hij hi hj => ?_⟩
    · cases i with
      | zero => simp at hi; subst hi; exact r.mono a1 st2.ex keep st2.ext
      | succ i => exact hx i x (by simpa using hi)
    · cases i with
      | zero => exact oP
      | succ i => exact (ol.own i).step st1
    · cases i with
      | zero => cases j with
        | zero => exact hij rfl
        | succ j => exact dj j b hi hj
      | succ i => cases j with
        | zero => exact dj i b hj hi
        | succ j => exact ol.dj i j b (fun z => hij (by rw [z])) hi hj
/-- a slot gets what is at hand: data or an owned thing -/
theorem EnvW.setX {H0 : Hp} {fp0 : Fp} {i : Nat} {v : V} {x : Sl} {P : Addr → Prop} (E : EnvW K σ s H F fp) (h : SlOk K F H P (some (some v)) x) (o : Own H0 fp0 H F fp P) : EnvW K (σ.set i (some v)) (s.set i x) H F (fpSet fp (.inl i) P) where
  ex := E.ex
  len := by simp [S.set, E.len]
  sl := fun j y hj => by
    by_cases z : j = i
    · subst z
      have hl : j < s.s.length := by
        have := (List.getElem?_eq_some_iff.mp hj).1
        simpa [S.set] using this
      have e1 : (s.s.set j x)[j]? = some x := List.getElem?_set_self hl
      rw [show (s.set j x).s = s.s.set j x from rfl, e1] at hj
      cases hj
      rw [fpSet_same, List.getElem?_set_self (by rw [E.len]; exact hl)]
      exact h
    · have e1 : (s.s.set i x)[j]? = s.s[j]? := List.getElem?_set_ne (Ne.symm z)
      rw [show (s.set i x).s = s.s.set i x from rfl, e1] at hj
      rw [fpSet_ne (by intro q; cases q; exact z rfl), List.getElem?_set_ne (Ne.symm z)]
      exact E.sl j y hj
  tb := E.tb
  dj := fun j k b hjk h1 h2 => by
    by_cases z : j = .inl i
    · subst z; rw [fpSet_same] at h1; rw [fpSet_ne (Ne.symm hjk)] at h2; exact o.dj b k h1 h2
    · rw [fpSet_ne z] at h1
      by_cases y : k = .inl i
      · subst y; rw [fpSet_same] at h2; exact o.dj b j h2 h1
      · rw [fpSet_ne y] at h2; exact E.dj j k b hjk h1 h2
  nf := fun j b h1 => by
    by_cases z : j = .inl i
    · subst z; rw [fpSet_same] at h1; exact o.nf b h1
    · rw [fpSet_ne z] at h1; exact E.nf j b h1
  th := fun j b h1 => by
    by_cases z : j = .inl i
    · subst z; rw [fpSet_same] at h1; exact o.th b h1
    · rw [fpSet_ne z] at h1; exact E.th j b h1
  nt := E.nt
theorem Own.fps {H' F' H0 : Hp} {fp0 fp' : Fp} {P P' : Addr → Prop} {i : Ix} (o : Own H0 fp0 H' F' fp' P) (d : ∀ b, P b → ¬ P' b) : Own H0 fp0 H' F' (fpSet fp' i P') P := ⟨o.nf, fun b j hb hj => by
  by_cases z : j = i
  · subst z; rw [fpSet_same] at hj; exact d b hb hj
  · rw [fpSet_ne z] at hj; exact o.dj b j hb hj, o.th, o.new⟩
theorem run_parX {i j : Nat} {x1 x2 : Sl} {ta : TA} (h : EvX K ta s [x1, x2] s1) : Run K E (tPar i j ta) s (.nx ((s1.set i x1).set j x2)) := fun σ H F fp e Ed q =>
  h σ H F fp e _ fun vs H' F' fp' P e' st l hx ol => by
    match vs, l with
    | [v1, v2], _ =>
      have z1 := hx 0 x1 rfl
      have z2 := hx 1 x2 rfl
      refine ⟨_, _, rfl, q _ H' F' _ ((e'.setX (i := i) z1 (ol.own 0)).setX (i := j) z2 ((ol.own 1).fps (ol.dj 1 0 · (by decide)))) ((st.own (ol.own 0)).own ((ol.own 1).fps (ol.dj 1 0 · (by decide))))⟩
theorem run_parX3 {i j k : Nat} {x1 x2 x3 : Sl} {ta : TA} (h : EvX K ta s [x1, x2, x3] s1) : Run K E (tPar3 i j k ta) s (.nx (((s1.set i x1).set j x2).set k x3)) := fun σ H F fp e Ed q =>
  h σ H F fp e _ fun vs H' F' fp' P e' st l hx ol => by
    match vs, l with
    | [v1, v2, v3], _ =>
      have z1 := hx 0 x1 rfl
      have z2 := hx 1 x2 rfl
      have z3 := hx 2 x3 rfl
      have o1 := ol.own 0
      have o2 := (ol.own 1).fps (i := .inl i) (ol.dj 1 0 · (by decide))
      have o3 := ((ol.own 2).fps (i := .inl i) (ol.dj 2 0 · (by decide))).fps (i := .inl j) (ol.dj 2 1 · (by decide))
      exact ⟨_, _, _, rfl, q _ H' F' _ (((e'.setX (i := i) z1 o1).setX (i := j) z2 o2).setX (i := k) z3 o3) (((st.own o1).own o2).own o3)⟩
/-! ### an owned list is given up: from now on it is data -/
theorem EnvW.freeze {i : Nat} {ov : Option V} {ds : List D} (e : EnvW K σ s H F fp) (hi : s.s[i]? = some (.res (lstR K ov ds))) : ∃ F', EnvW K σ (s.set i (.dat (.list ds))) H F' (fpSet fp (.inl i) noP) ∧ Step H F fp H F' (fpSet fp (.inl i) noP) := by
  obtain ⟨a, vs, h1, h2, h3, h4⟩ := e.own hi
  have hfa : fp (.inl i) a := (h2 a).mpr rfl
  have hFa : F a = none := e.nf _ a hfa
  have eF : Ex F (upd F a (.lst vs)) := Ex.new hFa
  have hil : i < s.s.length := (List.getElem?_eq_some_iff.mp hi).1
  have nfa : ∀ j b, j ≠ .inl i → fp j b → b ≠ a := fun j b hj hb z => e.dj j (.inl i) b hj hb (z ▸ hfa)
  refine ⟨upd F a (.lst vs), ⟨fun b u q => ?_, by simp [S.set, e.len], fun j y hj => ?_, e.tb, fun j k b hjk h1 h2 => ?_, fun j b hb => ?_, fun j b hb => ?_, fun b o q => ?_⟩, ⟨eF, fun b h1 h2 h3 => ?_, fun b o h1 _ _ => h1, fun j b hb => ?_, fun _ _ h => h⟩⟩
  · by_cases z : b = a
    · subst z; rw [upd_same] at q; cases q; exact h3
    · rw [upd_ne z] at q; exact e.ex b u q
  · by_cases z : j = i
    · subst z
      have e1 : (s.s.set j (.dat (.list ds)))[j]? = some (.dat (.list ds)) := List.getElem?_set_self hil
      rw [show (s.set j (.dat (.list ds))).s = s.s.set j (.dat (.list ds)) from rfl, e1] at hj
      cases hj
      exact ⟨.ref a, h1, .lst upd_same (h4.ex eF)⟩
    · have e1 : (s.s.set i (.dat (.list ds)))[j]? = s.s[j]? := List.getElem?_set_ne (Ne.symm z)
      rw [show (s.set i (.dat (.list ds))).s = s.s.set i (.dat (.list ds)) from rfl, e1] at hj
      rw [fpSet_ne (by intro q; cases q; exact z rfl)]
      exact (e.sl j y hj).mono eF (fun _ _ => rfl) (fun _ _ h => h)
  · by_cases z : j = .inl i
    · subst z; rw [fpSet_same] at h1; exact h1
    · rw [fpSet_ne z] at h1
      by_cases y : k = .inl i
      · subst y; rw [fpSet_same] at h2; exact h2
      · rw [fpSet_ne y] at h2; exact e.dj j k b hjk h1 h2
  · by_cases z : j = .inl i
    · subst z; rw [fpSet_same] at hb; exact hb.elim
    · rw [fpSet_ne z] at hb; rw [upd_ne (nfa j b z hb)]; exact e.nf j b hb
  · by_cases z : j = .inl i
    · subst z; rw [fpSet_same] at hb; exact hb.elim
    · rw [fpSet_ne z] at hb; exact e.th j b hb
  · by_cases z : b = a
    · subst z; rw [upd_same] at q; cases q; intro ps w; cases w
    · rw [upd_ne z] at q; exact e.nt b o q
  · have : b ≠ a := fun z => h3 (.inl i) (z ▸ hfa)
    rw [upd_ne this]; exact h1
  · by_cases z : j = .inl i
    · subst z; rw [fpSet_same] at hb; exact hb.elim
    · rw [fpSet_ne z] at hb; exact .inl ⟨j, hb⟩
theorem run_frz {i : Nat} {ov : Option V} {ds : List D} (hi : s.s[i]? = some (.res (lstR K ov ds))) (h : Run K E t (s.set i (.dat (.list ds))) o) : Run K E t s o := fun σ H F fp e Ed q => by
  obtain ⟨F', e', st⟩ := e.freeze hi
  exact h σ H F' _ e' Ed (q.step st)
theorem ev_frz {i : Nat} {ov : Option V} {ds : List D} (hi : s.s[i]? = some (.res (lstR K ov ds))) (h : Ev K te (s.set i (.dat (.list ds))) d s') : Ev K te s d s' := fun σ H F fp e Q q => by
  obtain ⟨F', e', st⟩ := e.freeze hi
  exact h σ H F' _ e' Q fun v H2 F2 fp2 e2 st2 a => q v H2 F2 fp2 e2 (st.trans st2) a
/-! ### x += n -/
theorem run_aug {i : Nat} {f : Int → Int → Int} {a b : Int} (hi : s.s[i]? = some (.dat (.int a))) (h : Ev K te s (.int b) s1) : Run K E (tAug i te (ipI f)) s (.nx (s1.set i (.dat (.int (f a b))))) := fun σ H F fp e Ed q => by
  obtain ⟨v, h1, h2⟩ := e.sl i _ hi
  cases h2
  refine ⟨_, h1, h σ H F fp e _ fun w H1 F1 fp1 e1 st1 a1 => ?_⟩
  cases a1
  exact ⟨a, b, rfl, rfl, q _ H1 F1 _ (e1.set (i := i) (x := .dat (.int (f a b))) ⟨_, rfl, .int _⟩) (st1.trans Step.drop)⟩
/-! ### operators in short -/
variable {ta tb tc : TE} {x y : D} {a b c : Int}
theorem ev_addI (ha : Ev K ta s (.int a) s1) (hb : Ev K tb s1 (.int b) s2) : Ev K (tOp (rD2 K addOk addD) ta tb) s (.int (a + b)) s2 := ev_op ha hb trivial
theorem ev_subI (ha : Ev K ta s (.int a) s1) (hb : Ev K tb s1 (.int b) s2) : Ev K (tOp (rD2 K subOk subD) ta tb) s (.int (a - b)) s2 := ev_op ha hb trivial
theorem ev_mulI (ha : Ev K ta s (.int a) s1) (hb : Ev K tb s1 (.int b) s2) (h : CMul a b) : Ev K (tOp (rD2 K mulOk mulD) ta tb) s (.int (a * b)) s2 := ev_op ha hb h
theorem ev_divI (ha : Ev K ta s (.int a) s1) (hb : Ev K tb s1 (.int b) s2) (h : 0 < b ∧ b < 1073741824) : Ev K (tOp (rD2 K divOk divD) ta tb) s (.int (a / b)) s2 := ev_op ha hb h
theorem ev_modI (ha : Ev K ta s (.int a) s1) (hb : Ev K tb s1 (.int b) s2) (h : 0 < b) : Ev K (tOp (rD2 K modOk modD) ta tb) s (.int (a % b)) s2 := ev_op ha hb h
theorem ev_powI (ha : Ev K ta s (.int a) s1) (hb : Ev K tb s1 (.int b) s2) (h : CPow a b) : Ev K (tOp (rD2 K powOk powD) ta tb) s (.int (a ^ b.toNat)) s2 := ev_op ha hb h
theorem ev_ltI (ha : Ev K ta s (.int a) s1) (hb : Ev K tb s1 (.int b) s2) : Ev K (tOp (rD2 K ltXOk ltXD) ta tb) s (.bool (decide (a < b))) s2 := ev_op ha hb trivial
theorem ev_leI (ha : Ev K ta s (.int a) s1) (hb : Ev K tb s1 (.int b) s2) : Ev K (tOp (rD2 K ordOk leD) ta tb) s (.bool (decide (a ≤ b))) s2 := ev_op ha hb trivial
theorem ev_gtI (ha : Ev K ta s (.int a) s1) (hb : Ev K tb s1 (.int b) s2) : Ev K (tOp (rD2 K ordOk gtD) ta tb) s (.bool (decide (b < a))) s2 := ev_op ha hb trivial
theorem ev_geI (ha : Ev K ta s (.int a) s1) (hb : Ev K tb s1 (.int b) s2) : Ev K (tOp (rD2 K ordOk geD) ta tb) s (.bool (decide (b ≤ a))) s2 := ev_op ha hb trivial
theorem beq_dec {a b : Int} : (a == b) = decide (a = b) := by
  by_cases h : a = b <;> simp [h]
theorem ev_eqI (ha : Ev K ta s (.int a) s1) (hb : Ev K tb s1 (.int b) s2) : Ev K (tOp (rD2 K eqOk eqD) ta tb) s (.bool (decide (a = b))) s2 := by
  have := ev_op (ok := eqOk) (f := eqD) ha hb ⟨rfl, rfl⟩
  refine this.to ?_
  show PyData.bool (PyData.eqv (.int a) (.int b)) = _
  simp only [PyData.eqv, beq_dec]
theorem ev_neI (ha : Ev K ta s (.int a) s1) (hb : Ev K tb s1 (.int b) s2) : Ev K (tOp (rD2 K eqOk neD) ta tb) s (.bool (!decide (a = b))) s2 := by
  have := ev_op (ok := eqOk) (f := neD) ha hb ⟨rfl, rfl⟩
  refine this.to ?_
  show PyData.bool (!PyData.eqv (.int a) (.int b)) = _
  simp only [PyData.eqv, beq_dec]
theorem ev_isN (ha : Ev K ta s x s1) (hb : Ev K tb s1 .none s2) : Ev K (tOp (rD2 K isOk isD) ta tb) s (.bool (isNoneB x)) s2 := ev_op ha hb rfl
theorem ev_isnN (ha : Ev K ta s x s1) (hb : Ev K tb s1 .none s2) : Ev K (tOp (rD2 K isOk isnD) ta tb) s (.bool (!isNoneB x)) s2 := ev_op ha hb rfl
theorem ev_negI (ha : Ev K ta s (.int a) s1) : Ev K (tUn (rD1 K negOk negD) ta) s (.int (-a)) s1 := ev_un ha trivial
theorem ev_lenL {ds : List D} {t : TA} (ha : EvA K t s [.list ds] s1) : Ev K (tCB (rDn K lenOk lenD) t) s (.int ds.length) s1 := ev_cb ha trivial
theorem ev_lenT {ds : List D} {t : TA} (ha : EvA K t s [.tuple ds] s1) : Ev K (tCB (rDn K lenOk lenD) t) s (.int ds.length) s1 := ev_cb ha trivial
theorem ev_lenO {ds : List D} {i : Nat} {ov : Option V} (hi : s.s[i]? = some (.res (lstR K ov ds))) : Ev K (tCB (rDn K lenOk lenD) (tCons (tVar i) tNil)) s (.int ds.length) s := ev_cb1 hi trivial
theorem ev_eqT {x y : D} (ha : Ev K ta s x s1) (hb : Ev K tb s1 y s2) (ok : eqOk x y) : Ev K (tOp (rD2 K eqOk eqD) ta tb) s (.bool (PyData.eqv x y)) s2 := ev_op ha hb ok
theorem ev_neT {x y : D} (ha : Ev K ta s x s1) (hb : Ev K tb s1 y s2) (ok : eqOk x y) : Ev K (tOp (rD2 K eqOk neD) ta tb) s (.bool (!PyData.eqv x y)) s2 := ev_op ha hb ok
theorem ev_inT {x y : D} (ha : Ev K ta s x s1) (hb : Ev K tb s1 y s2) (ok : inOk x y) : Ev K (tOp (rD2 K inOk inD) ta tb) s (.bool (inB x y)) s2 := ev_op ha hb ok
theorem ev_ninT {x y : D} (ha : Ev K ta s x s1) (hb : Ev K tb s1 y s2) (ok : inOk x y) : Ev K (tOp (rD2 K inOk ninD) ta tb) s (.bool (!inB x y)) s2 := ev_op ha hb ok
/-- xs[i] -/
theorem ev_ixL {ds : List D} {i : Int} {d : D} (ha : Ev K ta s (.list ds) s1) (hb : Ev K tb s1 (.int i) s2) (h : atI ds i = some d) : Ev K (tOp (rD2 K ixOk ixD) ta tb) s d s2 := by
  refine (ev_op ha hb (by show (atI ds i).isSome = true; rw [h]; rfl)).to ?_
  show (atI ds i).getD .none = d
  rw [h]; rfl
theorem ev_ixT {ds : List D} {i : Int} {d : D} (ha : Ev K ta s (.tuple ds) s1) (hb : Ev K tb s1 (.int i) s2) (h : atI ds i = some d) : Ev K (tOp (rD2 K ixOk ixD) ta tb) s d s2 := by
  refine (ev_op ha hb (by show (atI ds i).isSome = true; rw [h]; rfl)).to ?_
  show (atI ds i).getD .none = d
  rw [h]; rfl
theorem ev_ixO {ds ds' : List D} {i : Int} {d : D} {j : Nat} {ov ov' : Option V} (hi : s.s[j]? = some (.res (lstR K ov ds))) (hb : Ev K tb s (.int i) s2) (hi2 : s2.s[j]? = some (.res (lstR K ov' ds'))) (h : atI ds' i = some d) : Ev K (tOp (rD2 K ixOk ixD) (tVar j) tb) s d s2 := by
  refine (ev_op1 hi hb hi2 (by show (atI ds' i).isSome = true; rw [h]; rfl)).to ?_
  show (atI ds' i).getD .none = d
  rw [h]; rfl
end
mutual
theorem eqv_refl : ∀ (d : D), flat0 d = true → PyData.eqv d d = true
  | .none, _ => by simp [PyData.eqv]
  | .bool b, _ => by simp [PyData.eqv]
  | .int i, _ => by simp [PyData.eqv]
  | .str x, _ => by simp [PyData.eqv]
  | .list xs, h => by unfold flat0 at h; unfold PyData.eqv; exact eqvs_refl xs h
  | .tuple xs, h => by unfold flat0 at h; unfold PyData.eqv; exact eqvs_refl xs h
  | .dict _, h => by unfold flat0 at h; cases h
theorem eqvs_refl : ∀ (ds : List D), flats0 ds = true → PyData.eqvAll ds ds = true
  | [], _ => by unfold PyData.eqvAll; rfl
  | x :: xs, h => by
    unfold flats0 at h
    rw [Bool.and_eq_true] at h
    unfold PyData.eqvAll
    rw [eqv_refl x h.1, eqvs_refl xs h.2]; rfl
end
/-! ### what may be compared -/
def Sh (n : Nat) (d : D) : Prop := d.canLay0 = true ∧ d.depth ≤ n
def Shs (n : Nat) (ds : List D) : Prop := PyData.canLayAll0 ds = true ∧ PyData.depthAll ds ≤ n
theorem sh_non {n : Nat} : Sh n .none := ⟨by unfold PyData.canLay0; rfl, by unfold PyData.depth; exact Nat.zero_le _⟩
theorem sh_bl {n : Nat} {b : Bool} : Sh n (.bool b) := ⟨by unfold PyData.canLay0; rfl, by unfold PyData.depth; exact Nat.zero_le _⟩
theorem sh_int {n : Nat} {b : Int} : Sh n (.int b) := ⟨by unfold PyData.canLay0; rfl, by unfold PyData.depth; exact Nat.zero_le _⟩
theorem sh_str {n : Nat} {x : Str} (h : PyData.strOk x = true) : Sh n (.str x) := ⟨by unfold PyData.canLay0; exact h, by unfold PyData.depth; exact Nat.zero_le _⟩
theorem sh_lst {n : Nat} {ds : List D} (h : Shs n ds) : Sh (n + 1) (.list ds) := ⟨by unfold PyData.canLay0; exact h.1, by unfold PyData.depth; exact Nat.succ_le_succ h.2⟩
theorem sh_tup {n : Nat} {ds : List D} (h : Shs n ds) : Sh (n + 1) (.tuple ds) := ⟨by unfold PyData.canLay0; exact h.1, by unfold PyData.depth; exact Nat.succ_le_succ h.2⟩
theorem shs_nil {n : Nat} : Shs n [] := ⟨by unfold PyData.canLayAll0; rfl, by unfold PyData.depthAll; exact Nat.zero_le _⟩
theorem shs_cons {n : Nat} {d : D} {ds : List D} (h : Sh n d) (t : Shs n ds) : Shs n (d :: ds) := ⟨by unfold PyData.canLayAll0; rw [h.1, t.1]; rfl, by unfold PyData.depthAll; exact Nat.max_le.mpr ⟨h.2, t.2⟩⟩
theorem shs_of {n : Nat} : ∀ {ds : List D}, (∀ d ∈ ds, Sh n d) → Shs n ds
  | [], _ => shs_nil
  | d :: ds, h => shs_cons (h d List.mem_cons_self) (shs_of fun x hx => h x (List.mem_cons_of_mem _ hx))
theorem Shs.app {n : Nat} : ∀ {ds es : List D}, Shs n ds → Shs n es → Shs n (ds ++ es)
  | [], _, _, h => h
  | d :: ds, es, h, k => by
    obtain ⟨h1, h2⟩ := h
    unfold PyData.canLayAll0 at h1
    unfold PyData.depthAll at h2
    rw [Bool.and_eq_true] at h1
    exact shs_cons ⟨h1.1, Nat.le_trans (Nat.le_max_left _ _) h2⟩ (Shs.app ⟨h1.2, Nat.le_trans (Nat.le_max_right _ _) h2⟩ k)
theorem Shs.mem {n : Nat} : ∀ {ds : List D}, Shs n ds → ∀ d ∈ ds, Sh n d
  | [], _, d, h => by simp at h
  | x :: ds, h, d, hd => by
    obtain ⟨h1, h2⟩ := h
    unfold PyData.canLayAll0 at h1
    unfold PyData.depthAll at h2
    rw [Bool.and_eq_true] at h1
    rcases List.mem_cons.mp hd with rfl | hd
    · exact ⟨h1.1, Nat.le_trans (Nat.le_max_left _ _) h2⟩
    · exact Shs.mem (ds := ds) ⟨h1.2, Nat.le_trans (Nat.le_max_right _ _) h2⟩ d hd
theorem Sh.ok {n : Nat} {d : D} (h : Sh n d) (hn : n ≤ 64 := by decide) : SeqAt.shaped d = true := by
  unfold SeqAt.shaped
  rw [h.1, decide_eq_true (Nat.le_trans h.2 hn)]; rfl
theorem Sh.flat {n : Nat} {d : D} (h : Sh n d) : flat0 d = true := flat_of_canLay h.1
theorem Sh.eqv {n : Nat} {d : D} (h : Sh n d) : PyData.eqv d d = true := eqv_refl d h.flat
/-! ### a lambda handed to _law_refused -/
section
variable {X : Cx} {nm fl x ret : Str} {C fI g c P : Addr} {k : Nat} {st : Stmt} {fdg : FuncData} {T : List (Addr × Str)} {params : Arguments} {body : Expr} {scope : Scope} {t : XK → TE} {p lpos pos : Pos} {j : Nat} {p1 p2 p3 p4 p5 p6 p7 p8 p9 p10 p11 : Pos}
open LamX in
theorem lam_ref (F : Fun X.K x x st g fdg) (Sg : FnScope ["call", "e"] ["call"] (defScope st)) (hst : defBody st = [.Try [.Expr (.Call (.Name "call" p1) [] [] p2) p3] [.ExceptHandler (some (.Name nm p4)) (some "e") [.Return (some (.Attribute (.Name "e" p5) fl p6)) p7] p8] [] [] p9, .Return (some (.Constant (.str ret) j p10)) p11])
    (TX : BX.ExTxt X.prog X.K X.mg nm fl C fI) (te : PySem.W.exmOne X.K (.ref C) (.ref C) = some true) (hge : (defScope st).names.lookup nm = some .globalImplicit) (hde : (nm == ("__debug__" : Str)) = false) (hle : (defScope st).names.lookup ("e" : Str) = some .local) (hva : Vis (defScope st) "call")
    (hb : ∀ kV doc pm an cdv ct, L2.Binds X.K (PySem.W.fnOf x x (defArgs st) (defBody st) (defScope st) .none kV doc pm an cdv ct) ["call"] [])
    (hm : X.mg x = some (.ref g)) (hg : Gl X x) (TB : TabB X.base X.mg c P) (hcode : X.env.code = .ref c) (hmT : (P, X.env.qual ++ "<lambda>") ∈ T) (hu : ∀ p ∈ T, p.1 = P → p.2 = X.env.qual ++ "<lambda>") (hr : Room (k + 2) X.A) (L : LamS X.env.scope scope) (hdef : defaultsOf params X.env = ([], []))
    (hbind : ∀ (q : Str) (cl : List (Str × Addr)) (pm cv ctv : Value), bindArgs (PySem.W.kla_fn "<lambda>" q params body scope cl pm cv ctv) ⟨[], []⟩ = pure [])
    (hbody : ∀ (A : Around) (outer : List Env) (s : Shared) (H : Hp) (E : XK) (f c' : Addr), Room k (A.deeper (lamEnv X scope s.heap.objs.size f c')) → PE (lamCx X A outer s H E scope f c') body (t E))
    (hdb : (x == ("__debug__" : Str)) = false := by decide) :
    PE X (.Call (.Name x p) [.Lambda params body scope lpos] [] pos) (tLam T (BX.TRef X.K C fl ret) t) := by
  obtain ⟨oc, od, kV, doc, pm, an, cdv, ct, osl, rfl, lk, hcd⟩ := F.ex
  refine pe_lamcall (a := "call") (Ng := ["call", "e"]) hg hm F.kp lk hcd (hb _ _ _ _ _ _) Sg rfl hva ?_ TB hcode hmT hu hr L hdef hbind hbody hdb
  rw [hst]
  exact BX.ref_gives TX te hge hde hle
end
end DL

namespace DL
open PySem PySem.Spec PyProof.Rows L2
section
variable {K : PySem.W.Frag} {E : XK} {s s1 s2 s' : S} {te : TE} {d : D} {o : Out} {t : TS} {σ : L2.St} {H F H0 F0 H' F' : Hp} {fp fp0 fp' : Fp}
/-- a thing held aside -/
theorem EnvW.hold {m : Nat} {P : Addr → Prop} (e : EnvW K σ s H F fp) (o : Own H0 fp0 H F fp P) : EnvW K σ s H F (fpSet fp (.inr m) P) where
  ex := e.ex
  len := e.len
  sl := fun i x h => by rw [fpSet_ne (by intro z; cases z)]; exact e.sl i x h
  tb := e.tb
  dj := fun j k b hjk h1 h2 => by
    by_cases z : j = .inr m
    · subst z; rw [fpSet_same] at h1; rw [fpSet_ne (Ne.symm hjk)] at h2; exact o.dj b k h1 h2
    · rw [fpSet_ne z] at h1
      by_cases y : k = .inr m
      · subst y; rw [fpSet_same] at h2; exact o.dj b j h2 h1
      · rw [fpSet_ne y] at h2; exact e.dj j k b hjk h1 h2
  nf := fun j b h1 => by
    by_cases z : j = .inr m
    · subst z; rw [fpSet_same] at h1; exact o.nf b h1
    · rw [fpSet_ne z] at h1; exact e.nf j b h1
  th := fun j b h1 => by
    by_cases z : j = .inr m
    · subst z; rw [fpSet_same] at h1; exact o.th b h1
    · rw [fpSet_ne z] at h1; exact e.th j b h1
  nt := e.nt
theorem EnvW.letGo {m : Nat} (e : EnvW K σ s H F fp) : EnvW K σ s H F (fpSet fp (.inr m) noP) := e.hold (H0 := H) (fp0 := fp) (Own.none (F := F))
/-- f(e, ..), e a new list that f may change -/
theorem ev_callOw {R : FR} {tr : TA} {ds es : List D} {sx : List Sl} (h : EvO K te s (lstR K none es) s1) (ha : EvA K tr s1 ds s2)
    (hR : ∀ v, R ⟨.res (lstR K (some v) es) :: ds.map .dat, s2.g⟩ (.rt d ⟨sx, s2.g⟩)) : Ev K (tCall (spF K R) [] E (tCons te tr)) s d s2 := fun σ H F fp e Q q =>
  h σ H F fp e _ fun v H1 F1 fp1 P e1 st1 a1 o1 => ha σ H1 F1 fp1 e1 _ fun vs H2 F2 fp2 e2 st2 a2 => by
    obtain ⟨a, ws, h1, h2, h3, h4, h5⟩ := a1
    cases h1
    have la : Live H1 a := o1.th a ((h3 a).mpr rfl)
    have na : ∀ i, ¬ fp1 i a := fun i hi => o1.dj a i ((h3 a).mpr rfl) hi
    have na2 : ∀ i, ¬ fp2 i a := fun i hi => by
      rcases st2.fpn i a hi with ⟨j, hj⟩ | hn
      · exact na j hj
      · exact hn la
    have hl2 : H2 a = some (.lst ws) := st2.keep a _ h4 (by intro ps z; cases z) na
    have oP : Own H fp H2 F2 fp2 (fun b => b = a) := ⟨fun b hb => hb ▸ st2.new a (o1.nf a ((h3 a).mpr rfl)) la na, fun b i hb hi => na2 i (hb ▸ hi), fun b hb => by subst hb; exact ⟨_, hl2, by intro ps z; cases z⟩, fun b hb => by subst hb; exact o1.new _ ((h3 _).mpr rfl)⟩
    have e3 := e2.hold (m := 0) oP
    have st3 := (st1.trans st2).own (i := .inr 0) oP
    show spF K R ((V.ref a :: vs) ++ []) H2 Q E
    rw [List.append_nil]
    refine ⟨⟨.res (lstR K (some (.ref a)) es) :: ds.map .dat, s2.g⟩, F2, fun j b => j = .inl 0 ∧ b = a, _, ⟨e2.ex, by simp [a2.length], fun k x hx => ?_, e2.tb, fun j k b hjk h1 h2 => hjk (h1.1.trans h2.1.symm), fun j b h => oP.nf b h.2, fun j b h => oP.th b h.2, e2.nt⟩, hR (.ref a), fun v H' F' fp' e' st av => ?_⟩
    · cases k with
      | zero =>
        simp at hx
        subst hx
        exact ⟨a, ws, rfl, fun v hv => (Option.some.inj hv).symm, fun b => ⟨fun z => z.2, fun z => ⟨rfl, z⟩⟩, hl2, h5.ex st2.ex⟩
      | succ k =>
        simp at hx
        obtain ⟨d, hd, rfl⟩ := hx
        obtain ⟨v, hv, hdv⟩ := a2.get hd
        exact ⟨v, by simp [hv], hdv⟩
    · have h := frame (J := fun j => j = .inr 0) (fun _ => .inl 0) (s2 := s2) e3 (fun j k hj hk _ => hj.trans hk.symm) (fun (j : Ix) (b : Addr) (h : j = .inl 0 ∧ b = a) => ⟨.inr 0, rfl, by rw [fpSet_same]; exact h.2⟩) e' st rfl (fun k x hx => ⟨(fun z => nomatch z), fun _ => hx⟩) rfl
      exact q v H' F' _ (h.1.letGo (m := 0)) ((st3.trans h.2).trans (Step.drop (i := .inr 0))) av
end
end DL
namespace DL
open PySem PySem.Spec PyProof.Rows L2
section
variable {K : PySem.W.Frag} {E : XK} {s s1 s2 s3 s' : S} {te ta tb : TE} {t u : TT} {d : D} {b : Bool}
theorem et_andF (h1 : EvT K t s false s1) : EvT K (tAnd t u) s false s1 := et_and (b := false) h1 (fun z => nomatch z)
theorem et_orT (h1 : EvT K t s true s1) : EvT K (tOr t u) s true s1 := et_or (b := false) h1 (fun z => nomatch z)
theorem ev_andF (h1 : Ev K ta s (.bool false) s1) : Ev K (tAndV ta tb) s (.bool false) s1 := ev_and (b := false) h1 (fun z => nomatch z)
theorem ev_orT (h1 : Ev K ta s (.bool true) s1) : Ev K (tOrV ta tb) s (.bool true) s1 := ev_or (b := false) h1 (fun z => nomatch z)
theorem ev_addL {xs ys : List D} (ha : Ev K ta s (.list xs) s1) (hb : Ev K tb s1 (.list ys) s2) (h : xs.length + ys.length ≤ sizeLine) : Ev K (tOp (rD2 K addOk addD) ta tb) s (.list (xs ++ ys)) s2 := ev_op ha hb h
theorem ev_addT {xs ys : List D} (ha : Ev K ta s (.tuple xs) s1) (hb : Ev K tb s1 (.tuple ys) s2) (h : xs.length + ys.length ≤ sizeLine) : Ev K (tOp (rD2 K addOk addD) ta tb) s (.tuple (xs ++ ys)) s2 := ev_op ha hb h
theorem ev_intI {i : Int} (ha : Ev K ta s (.int i) s1) : Ev K (tCB (rDn K intOk intD) (tCons ta tNil)) s (.int i) s1 := ev_cb (ea_cons ha ea_nil) trivial
theorem ev_absI {i : Int} (ha : Ev K ta s (.int i) s1) : Ev K (tCB (rDn K absOk absD) (tCons ta tNil)) s (.int (if i < 0 then -i else i)) s1 := ev_cb (ea_cons ha ea_nil) trivial
theorem ev_maxI {i j : Int} (ha : Ev K ta s (.int i) s1) (hb : Ev K tb s1 (.int j) s2) : Ev K (tCB (rDn K mmOk maxD) (tCons ta (tCons tb tNil))) s (.int (max i j)) s2 := ev_cb (ea_cons ha (ea_cons hb ea_nil)) trivial
theorem ev_minI {i j : Int} (ha : Ev K ta s (.int i) s1) (hb : Ev K tb s1 (.int j) s2) : Ev K (tCB (rDn K mmOk minD) (tCons ta (tCons tb tNil))) s (.int (min i j)) s2 := ev_cb (ea_cons ha (ea_cons hb ea_nil)) trivial
theorem ev_chainI {a b c : Int} {tc : TE} (ha : Ev K ta s (.int a) s1) (hb : Ev K tb s1 (.int b) s2) (hc : Ev K tc s2 (.int c) s2) : Ev K (tChain (rD2 K ordOk leD) (rD2 K ordOk leD) ta tb tc) s (.bool (decide (a ≤ b) && decide (b ≤ c))) s2 :=
  ev_chain ha hb trivial rfl (fun _ => hc) (fun _ => trivial) (fun _ => rfl)
theorem spf_len {R : FR} {n : Nat} (h : ∀ s o, R s o → s.s.length = n) {vs : List V} {H : Hp} {Q : VK} (w : spF K R vs H Q E) : vs.length = n := by
  obtain ⟨s, F, fp, o, e, hR, _⟩ := w
  have := e.len
  rw [List.length_map] at this
  rw [this, h s o hR]
end
end DL

namespace DL
open PySem PySem.Spec PyProof.Rows L2
/-! ### forgetting -/
inductive Fo : List Sl → List Sl → Prop
  | nil : Fo [] []
  | same {x : Sl} {l m : List Sl} : Fo l m → Fo (x :: l) (x :: m)
  | unk {x : Sl} {l m : List Sl} : Fo l m → Fo (x :: l) (.unk :: m)
theorem Fo.len : ∀ {l m : List Sl}, Fo l m → l.length = m.length
  | _, _, .nil => rfl
  | _, _, .same h => by simp [Fo.len h]
  | _, _, .unk h => by simp [Fo.len h]
theorem Fo.at : ∀ {l m : List Sl}, Fo l m → ∀ (i : Nat) (x : Sl), m[i]? = some x → x = .unk ∨ l[i]? = some x
  | _, _, .nil, i, x, h => by simp at h
  | _, _, .same h, 0, x, e => .inr (by simpa using e)
  | _, _, .same h, i + 1, x, e => by simpa using Fo.at h i x (by simpa using e)
  | _, _, .unk h, 0, x, e => .inl (by simpa using e.symm)
  | _, _, .unk h, i + 1, x, e => by simpa using Fo.at h i x (by simpa using e)
theorem Fo.le {l m : List Sl} {g : List (Addr × Str)} (h : Fo l m) : SLe ⟨l, g⟩ ⟨m, g⟩ := ⟨h.len, h.at, rfl⟩
/-! ### the script -/
section
variable {K : PySem.W.Frag} {E : XK} {s s1 s2 s3 s' : S} {te ta tb : TE} {t u : TT} {d : D} {b : Bool} {ns : List Int}
theorem ev_ifP {x : D} (h : EvT K t s b s) (h1 : b = true → Ev K ta s x s) (h2 : b = false → Ev K tb s x s) : Ev K (tIf t ta tb) s x s := ev_if h h1 h2
theorem ev_ifT {x : D} (h : EvT K t s true s1) (h1 : Ev K ta s1 x s2) : Ev K (tIf t ta tb) s x s2 := ev_if h (fun _ => h1) (fun z => nomatch z)
theorem ev_ifF {x : D} (h : EvT K t s false s1) (h1 : Ev K tb s1 x s2) : Ev K (tIf t ta tb) s x s2 := ev_if h (fun z => nomatch z) (fun _ => h1)
theorem ev_lenS (h : Ev K te s (scrD ns) s1) : Ev K (tCB (rDn K lenOk lenD) (tCons te tNil)) s (.int ns.length) s1 := by
  refine (ev_cb (ea_cons h ea_nil) (by show (intsOf (ns.map PyData.int)).isSome = true; rw [intsOf_map]; rfl)).to ?_
  show PyData.int ((ns.map PyData.int).length : Nat) = _
  rw [List.length_map]
theorem ev_ixS {i n : Int} (ha : Ev K ta s (scrD ns) s1) (hb : Ev K tb s1 (.int i) s2) (h : atI ns i = some n) : Ev K (tOp (rD2 K ixOk ixD) ta tb) s (.int n) s2 := by
  have e : atI (ns.map PyData.int) i = some (.int n) := by
    unfold atI at h ⊢
    rw [List.length_map]
    cases q : ixN ns.length i with
    | none => rw [q] at h; cases h
    | some j =>
      rw [q] at h
      show (ns.map PyData.int)[j]? = _
      rw [List.getElem?_map, show ns[j]? = some n from h]; rfl
  refine (ev_op ha hb ⟨by rw [intsOf_map]; rfl, by rw [e]; rfl⟩).to ?_
  show (atI (ns.map PyData.int) i).getD .none = _
  rw [e]; rfl
theorem ev_slS {tl th : TO} {lo hi : Option Int} (h : Ev K te s (scrD ns) s1) (h1 : EvP K tl s1 lo s2) (h2 : EvP K th s2 hi s3) : Ev K (tSl (rSlU K) te tl th) s (.list (cutL (ns.map PyData.int) lo hi)) s3 :=
  ev_sl h h1 h2 (by show (intsOf (ns.map PyData.int)).isSome = true; rw [intsOf_map]; rfl)
theorem ev_slL {xs : List D} {tl th : TO} {lo hi : Option Int} (h : Ev K te s (.list xs) s1) (h1 : EvP K tl s1 lo s2) (h2 : EvP K th s2 hi s3) : Ev K (tSl (rSlU K) te tl th) s (.list (cutL xs lo hi)) s3 := ev_sl h h1 h2 trivial
theorem ev_slT {xs : List D} {tl th : TO} {lo hi : Option Int} (h : Ev K te s (.tuple xs) s1) (h1 : EvP K tl s1 lo s2) (h2 : EvP K th s2 hi s3) : Ev K (tSl (rSlU K) te tl th) s (.tuple (cutL xs lo hi)) s3 := ev_sl h h1 h2 trivial
end
theorem fold_at {α β : Type} {f : β → α → β} {a : β} {l : List α} {i : Nat} {c : α} (h : l[i]? = some c) : (l.take (i + 1)).foldl f a = f ((l.take i).foldl f a) c := by
  rw [List.take_add_one, h, List.foldl_append]; rfl
theorem map_at {α : Type} {f : α → D} {l : List α} {i : Nat} {d : D} (h : (l.map f)[i]? = some d) : ∃ c, l[i]? = some c ∧ d = f c := by
  rw [List.getElem?_map] at h
  cases q : l[i]? with
  | none => rw [q] at h; cases h
  | some c => rw [q] at h; exact ⟨c, rfl, (Option.some.inj h).symm⟩
theorem cut_to {α : Type} {xs : List α} {n : Int} (h : 0 ≤ n) : cutL xs none (some n) = xs.take n.toNat := by
  unfold cutL
  obtain ⟨k, rfl⟩ := Int.eq_ofNat_of_zero_le h
  rw [HT.sIx_nat, HT.sIx_none, Nat.sub_zero, List.drop_zero, Int.toNat_natCast]
  by_cases h : k ≤ xs.length
  · rw [Nat.min_eq_left h]
  · rw [Nat.min_eq_right (by omega), List.take_of_length_le (Nat.le_refl _), List.take_of_length_le (by omega)]
theorem cut_from {α : Type} {xs : List α} {n : Int} (h : 0 ≤ n) : cutL xs (some n) none = xs.drop n.toNat := by
  unfold cutL
  obtain ⟨k, rfl⟩ := Int.eq_ofNat_of_zero_le h
  rw [HT.sIx_nat, HT.sIx_none, Int.toNat_natCast]
  by_cases h : k ≤ xs.length
  · rw [Nat.min_eq_left h, List.take_of_length_le (by simp)]
  · rw [Nat.min_eq_right (by omega), Nat.sub_self, List.take_zero, List.drop_of_length_le (by omega)]
end DL
namespace DL
open PySem PySem.Spec PyProof.Rows L2
/-! ### the first place where p holds, from i on, m places at most -/
def lf (p : Nat → Bool) : Nat → Nat → Nat
  | i, 0 => i
  | i, m + 1 => if p i then i else lf p (i + 1) m
theorem lf_spec (p : Nat → Bool) : ∀ (m i : Nat), p (i + m) = true → i ≤ lf p i m ∧ lf p i m ≤ i + m ∧ p (lf p i m) = true ∧ ∀ j, i ≤ j → j < lf p i m → p j = false
  | 0, i, h => ⟨Nat.le_refl _, Nat.le_refl _, h, fun j h1 h2 => absurd h2 (Nat.not_lt.mpr h1)⟩
  | m + 1, i, h => by
    unfold lf
    by_cases q : p i = true
    · rw [if_pos q]; exact ⟨Nat.le_refl _, Nat.le_add_right _ _, q, fun j h1 h2 => absurd h2 (Nat.not_lt.mpr h1)⟩
    · rw [if_neg q]
      obtain ⟨h1, h2, h3, h4⟩ := lf_spec p m (i + 1) (by rw [show i + 1 + m = i + (m + 1) by omega]; exact h)
      refine ⟨by omega, by omega, h3, fun j j1 j2 => ?_⟩
      by_cases e : j = i
      · subst e; simpa using q
      · exact h4 j (by omega) j2
theorem le_size {n : Nat} (h : n ≤ 16777216) : n ≤ sizeLine := by rw [sizeLine_eq]; exact h
section
variable {K : PySem.W.Frag} {E : XK} {s s1 s2 s3 s' : S} {te ta tb : TE} {t u : TT} {d : D} {b : Bool} {ds : List D}
theorem ev_tupO {i : Nat} {ov : Option V} (hi : s.s[i]? = some (.res (lstR K ov ds))) : Ev K (tCB (rDn K seqOk tupD) (tCons (tVar i) tNil)) s (.tuple ds) s := ev_cb1 hi trivial
theorem ev_tupL (h : Ev K te s (.list ds) s1) : Ev K (tCB (rDn K seqOk tupD) (tCons te tNil)) s (.tuple ds) s1 := ev_cb (ea_cons h ea_nil) trivial
theorem ev_tupT (h : Ev K te s (.tuple ds) s1) : Ev K (tCB (rDn K seqOk tupD) (tCons te tNil)) s (.tuple ds) s1 := ev_cb (ea_cons h ea_nil) trivial
theorem ev_lstL (h : Ev K te s (.list ds) s1) : Ev K (tCB (rDl K seqOk itemsD) (tCons te tNil)) s (.list ds) s1 := ev_cl (ea_cons h ea_nil) trivial
theorem ev_lstT (h : Ev K te s (.tuple ds) s1) : Ev K (tCB (rDl K seqOk itemsD) (tCons te tNil)) s (.list ds) s1 := ev_cl (ea_cons h ea_nil) trivial
end
theorem upTo_zero {lo : Int} : upTo lo 0 = [] := rfl
theorem upTo_getN {lo : Int} {n i : Nat} (h : i < n) : (upTo lo n)[i]? = some (.int (lo + i)) := by
  unfold upTo
  rw [List.getElem?_map, List.getElem?_range h]; rfl
theorem upTo_take {lo : Int} {n k : Nat} (h : k ≤ n) : (upTo lo n).take k = upTo lo k := by
  unfold upTo
  rw [← List.map_take, List.take_range, Nat.min_eq_left h]
theorem upTo_drop {lo : Int} {n k : Nat} : (upTo lo n).drop k = upTo (lo + k) (n - k) := by
  apply List.ext_getElem?
  intro i
  rw [List.getElem?_drop]
  by_cases h : k + i < n
  · rw [upTo_getN h, upTo_getN (by omega)]; congr 2; omega
  · rw [List.getElem?_eq_none (by rw [upTo_len]; omega), List.getElem?_eq_none (by rw [upTo_len]; omega)]
theorem upTo_mem {lo : Int} {n : Nat} {d : D} : d ∈ upTo lo n ↔ ∃ i : Nat, i < n ∧ d = .int (lo + i) := by
  unfold upTo
  simp only [List.mem_map, List.mem_range]
  exact ⟨fun ⟨i, h, e⟩ => ⟨i, h, e.symm⟩, fun ⟨i, h, e⟩ => ⟨i, h, e.symm⟩⟩
theorem upTo_sh {lo : Int} {n k : Nat} : Shs k (upTo lo n) := shs_of fun d h => by obtain ⟨i, _, rfl⟩ := upTo_mem.mp h; exact sh_int
theorem upTo_in {lo h : Int} {n : Nat} : inB (.int h) (.list (upTo lo n)) = (decide (lo ≤ h) && decide (h < lo + n)) := by
  unfold inB
  by_cases c : lo ≤ h ∧ h < lo + n
  · rw [decide_eq_true c.1, decide_eq_true c.2]
    refine List.any_eq_true.mpr ⟨.int h, upTo_mem.mpr ⟨(h - lo).toNat, by omega, by congr 1; omega⟩, by simp [PyData.eqv]⟩
  · have : (decide (lo ≤ h) && decide (h < lo + n)) = false := by
      simp only [Bool.and_eq_false_iff, decide_eq_false_iff_not]; omega
    rw [this]
    refine List.any_eq_false.mpr fun d hd => ?_
    obtain ⟨i, hi, rfl⟩ := upTo_mem.mp hd
    simp only [PyData.eqv, beq_iff_eq]
    omega
theorem atI_nat {α : Type} {xs : List α} {i : Nat} {x : α} (h : xs[i]? = some x) : atI xs (i : Int) = some x := by
  have hl := (List.getElem?_eq_some_iff.mp h).1
  unfold atI ixN
  rw [if_pos (by omega), if_pos (by omega)]
  exact h
theorem atI_last {α : Type} {xs : List α} {x : α} (h : xs[xs.length - 1]? = some x) : atI xs (-1) = some x := by
  have hl := (List.getElem?_eq_some_iff.mp h).1
  unfold atI ixN
  rw [if_neg (by omega), if_pos (by omega)]
  show xs[(-1 + (xs.length : Int)).toNat]? = _
  rw [show (-1 + (xs.length : Int)).toNat = xs.length - 1 by omega]
  exact h
end DL
namespace DL
open PySem PySem.Spec PyProof.Rows L2
section
variable {K : PySem.W.Frag} {E : XK} {s s1 : S} {tt : TT} {t : TS}
theorem run_whileP (f : Nat → S) (m : Nat) (h0 : SLe s (f 0)) (hs : ∀ i, i < m → EvT K tt (f i) true (f i) ∧ Run K E t (f i) (.nx (f (i + 1)))) (he : EvT K tt (f m) false (f m)) : Run K E (tWhile tt t) s (.nx (f m)) :=
  run_while f f m h0 hs he
end
end DL
namespace DL
theorem Fo.int {a b : Int} {l m : List Sl} (h : a = b) (t : Fo l m) : Fo (.dat (.int a) :: l) (.dat (.int b) :: m) := h ▸ .same t
theorem Fo.dat {a b : D} {l m : List Sl} (h : a = b) (t : Fo l m) : Fo (.dat a :: l) (.dat b :: m) := h ▸ .same t
theorem Fo.lst {K : PySem.W.Frag} {ov : Option L2.V} {a b : List D} {l m : List Sl} (h : a = b) (t : Fo l m) : Fo (.res (lstR K ov a) :: l) (.res (lstR K ov b) :: m) := h ▸ .same t
end DL
namespace DL
open PySem PySem.Spec PyProof.Rows L2
section
variable {K : PySem.W.Frag} {E : XK} {s s1 s2 : S} {t : TS} {d : D} {r : Rs} {te : TE} {Cc : Addr} {fl : Str}
theorem run_rtle (h : Run K E t s (.rt d s1)) (l : SLe s1 s2) : Run K E t s (.rt d s2) := fun σ H F fp e Ed q => h σ H F fp e Ed fun σ' v H' F' fp' e' st a => q σ' v H' F' fp' (e'.le l) st a
theorem run_role (h : Run K E t s (.ro r s1)) (l : SLe s1 s2) : Run K E t s (.ro r s2) := fun σ H F fp e Ed q => h σ H F fp e Ed fun σ' v H' F' fp' P e' st a o => q σ' v H' F' fp' P (e'.le l) st a o
theorem run_exle (h : Run K E t s (.ex Cc fl d s1)) (l : SLe s1 s2) : Run K E t s (.ex Cc fl d s2) := fun σ H F fp e Ed q => h σ H F fp e Ed fun σ' dd v H' F' fp' e' st a b => q σ' dd v H' F' fp' (e'.le l) st a b
theorem run_retle (h : Ev K te s d s1) (l : SLe s1 s2) : Run K E (tRet te) s (.rt d s2) := run_rtle (run_ret h) l
end
end DL
namespace DL
open PySem PySem.Spec PyProof.Rows L2
section
variable {K : PySem.W.Frag} {E : XK} {s s1 s2 : S} {t : TS} {d : D} {te ta : TE} {ms : List Int}
theorem ev_maxL (h : Ev K ta s (.list (ms.map PyData.int)) s1) (hn : ms ≠ []) : Ev K (tCB (rDn K mmOk maxD) (tCons ta tNil)) s (.int (lmax ms)) s1 := by
  refine (ev_cb (ea_cons h ea_nil) ⟨by simpa using hn, by rw [intsOf_map]; rfl⟩).to ?_
  show PyData.int (lmax ((intsOf (ms.map PyData.int)).getD [])) = _
  rw [intsOf_map]; rfl
theorem ev_minL (h : Ev K ta s (.list (ms.map PyData.int)) s1) (hn : ms ≠ []) : Ev K (tCB (rDn K mmOk minD) (tCons ta tNil)) s (.int (lmin ms)) s1 := by
  refine (ev_cb (ea_cons h ea_nil) ⟨by simpa using hn, by rw [intsOf_map]; rfl⟩).to ?_
  show PyData.int (lmin ((intsOf (ms.map PyData.int)).getD [])) = _
  rw [intsOf_map]; rfl
end
end DL

namespace DL
open PySem PySem.Spec PyProof.Rows L2
section
variable {K : PySem.W.Frag} {E : XK} {H : Hp}
/-- what a caller sees behind a body, slot by slot; m: what stands in the body's slots at the end -/
inductive Lv (m : List Sl) : Nat → List V → List Sl → List Sl → Prop
  | nil {i : Nat} : Lv m i [] [] []
  | unk {i : Nat} {v : V} {vs : List V} {x : Sl} {l k : List Sl} : Lv m (i + 1) vs l k → Lv m i (v :: vs) (x :: l) (.unk :: k)
  | dat {i : Nat} {v : V} {vs : List V} {d : D} {l k : List Sl} : Lv m (i + 1) vs l k → Lv m i (v :: vs) (.dat d :: l) (.dat d :: k)
  | res {i : Nat} {v : V} {vs : List V} {x : Sl} {r : Rs} {l k : List Sl} (h : m[i]? = some (.res r)) (hp : Pin r v) : Lv m (i + 1) vs l k → Lv m i (v :: vs) (x :: l) (.res r :: k)
theorem Lv.len {m : List Sl} : ∀ {i : Nat} {vs : List V} {l k : List Sl}, Lv m i vs l k → k.length = l.length
  | _, _, _, _, .nil => rfl
  | _, _, _, _, .unk h => by simp [Lv.len h]
  | _, _, _, _, .dat h => by simp [Lv.len h]
  | _, _, _, _, .res _ _ h => by simp [Lv.len h]
theorem Lv.at {m : List Sl} : ∀ {i : Nat} {vs : List V} {l k : List Sl}, Lv m i vs l k → ∀ (j : Nat) (x : Sl), k[j]? = some x → x = .unk ∨ (∃ d, x = .dat d ∧ l[j]? = some x) ∨ ∃ r v, x = .res r ∧ m[i + j]? = some x ∧ vs[j]? = some v ∧ Pin r v
  | _, _, _, _, .nil, j, x, h => by simp at h
  | _, _, _, _, .unk t, 0, x, h => .inl (by simpa using h.symm)
  | _, _, _, _, .dat t, 0, x, h => by
    simp at h; subst h
    exact .inr (.inl ⟨_, rfl, by simp⟩)
  | _, _, _, _, .res h1 hp t, 0, x, h => by
    simp at h; subst h
    exact .inr (.inr ⟨_, _, rfl, by simpa using h1, by simp, hp⟩)
  | i, _, _, _, .unk t, j + 1, x, h => by
    have := Lv.at t j x (by simpa using h)
    rw [show i + 1 + j = i + (j + 1) by omega] at this
    simpa using this
  | i, _, _, _, .dat t, j + 1, x, h => by
    have := Lv.at t j x (by simpa using h)
    rw [show i + 1 + j = i + (j + 1) by omega] at this
    simpa using this
  | i, _, _, _, .res _ _ t, j + 1, x, h => by
    have := Lv.at t j x (by simpa using h)
    rw [show i + 1 + j = i + (j + 1) by omega] at this
    simpa using this
theorem Lv.leave {vs : List V} {s0 s1 s' : S} (h : Lv s1.s 0 vs s0.s s'.s) (hg : s'.g = s1.g) : Leave vs s0 s1 s' := ⟨h.len, fun i x hx => by
  rcases h.at i x hx with e | e | ⟨r, v, e1, e2, e3, e4⟩
  · exact .inl e
  · exact .inr (.inl e)
  · exact .inr (.inr ⟨r, v, e1, by rw [Nat.zero_add] at e2; exact e2, e3, e4⟩), hg⟩
/-- a body that runs keeps its promise: the same, in short -/
theorem run_bodyS {N : List Str} {n : Nat} {vs : List V} {t : TS} {R : FR} {Q : VK} (hl : n ≤ N.length) (hn : ∀ s o, R s o → s.s.length = n) (h : spF K R vs H Q E)
    (hr : ∀ s o, R s o → vs.length = n → (∃ F fp, EnvW K (vs.map some) s H F fp) → ∃ o1, Run K E t (s.more (N.length - n)) o1 ∧ Ret vs s o1 o) : t { nx := fun _ H' => Q .non H', rt := Q } (L2.start N vs) H := by
  have hv : vs.length = n := spf_len hn h
  refine run_body (by rw [hv]; exact hl) h fun s o hR hlen F fp e => ?_
  rw [hv]
  exact hr s o hR hv ⟨F, fp, e⟩
theorem pin_at {v0 v : V} {vs : List V} {es : List D} {l : List Sl} {g : List (Addr × Str)} (h : ∃ F fp, EnvW K ((v0 :: vs).map some) ⟨.res (lstR K (some v) es) :: l, g⟩ H F fp) : v0 = v := by
  obtain ⟨F, fp, e⟩ := h
  obtain ⟨a, ws, h1, h2, _⟩ := e.sl 0 _ rfl
  have := h2 v rfl
  subst this
  simpa using h1
theorem len1 {vs : List V} (h : vs.length = 1) : ∃ a, vs = [a] := match vs, h with | [a], _ => ⟨a, rfl⟩
theorem len2 {vs : List V} (h : vs.length = 2) : ∃ a b, vs = [a, b] := match vs, h with | [a, b], _ => ⟨a, b, rfl⟩
theorem len3 {vs : List V} (h : vs.length = 3) : ∃ a b c, vs = [a, b, c] := match vs, h with | [a, b, c], _ => ⟨a, b, c, rfl⟩
theorem len4 {vs : List V} (h : vs.length = 4) : ∃ a b c d, vs = [a, b, c, d] := match vs, h with | [a, b, c, d], _ => ⟨a, b, c, d, rfl⟩
theorem len5 {vs : List V} (h : vs.length = 5) : ∃ a b c d e, vs = [a, b, c, d, e] := match vs, h with | [a, b, c, d, e], _ => ⟨a, b, c, d, e, rfl⟩
theorem len6 {vs : List V} (h : vs.length = 6) : ∃ a b c d e f, vs = [a, b, c, d, e, f] := match vs, h with | [a, b, c, d, e, f], _ => ⟨a, b, c, d, e, f, rfl⟩
theorem len0 {vs : List V} (h : vs.length = 0) : vs = [] := List.length_eq_zero_iff.mp h
theorem len7 {vs : List V} (h : vs.length = 7) : ∃ a b c d e f g, vs = [a, b, c, d, e, f, g] := match vs, h with | [a, b, c, d, e, f, g], _ => ⟨a, b, c, d, e, f, g, rfl⟩
theorem len8 {vs : List V} (h : vs.length = 8) : ∃ a b c d e f g i, vs = [a, b, c, d, e, f, g, i] := match vs, h with | [a, b, c, d, e, f, g, i], _ => ⟨a, b, c, d, e, f, g, i, rfl⟩
theorem len9 {vs : List V} (h : vs.length = 9) : ∃ a b c d e f g i j, vs = [a, b, c, d, e, f, g, i, j] := match vs, h with | [a, b, c, d, e, f, g, i, j], _ => ⟨a, b, c, d, e, f, g, i, j, rfl⟩
theorem FunC.binds {K : PySem.W.Frag} {x qual : Str} {st : Stmt} {f : Addr} {fd : FuncData} {c : Addr} {ps : List Str} (F : FunC K x qual st f fd c)
    (h : ∀ (kV doc pm : Value) (an : Option Addr) (cdv ct : Value) (us : List Value), us.length = ps.length → bindArgs (PySem.W.fnOf x qual (defArgs st) (defBody st) (defScope st) .none kV doc pm an cdv ct) ⟨us, []⟩ = pure (ps.zip us)) : L2.Binds K fd ps [] := F.toFun.binds h
theorem funC_mk {K : PySem.W.Frag} {x qual : Str} {st : Stmt} {f c : Addr} {oc : Value} {od an : Option Addr} {osl : Array (Option Value)} {kV doc pm ct : Value} (l : K.lookup f = some ⟨oc, od, .func (PySem.W.fnOf x qual (defArgs st) (defBody st) (defScope st) .none kV doc pm an (.ref c) ct), osl⟩)
    (cc : PySem.W.codeIn K (.ref c) qual = true) (k : PySem.W.keepIn K (.ref f) = true) : FunC K x qual st f (PySem.W.fnOf x qual (defArgs st) (defBody st) (defScope st) .none kV doc pm an (.ref c) ct) c := ⟨⟨oc, od, kV, doc, pm, an, ct, osl, rfl, l, cc⟩, k⟩
theorem Fun.kwb {K : PySem.W.Frag} {x qual : Str} {st : Stmt} {f : Addr} {fd : FuncData} {ps ks : List Str} {n : Nat} {p : List Nat} (F : Fun K x qual st f fd)
    (h : ∀ (kV doc pm : Value) (an : Option Addr) (cdv ct : Value) (us ws : List Value), us.length = n → ws.length = ks.length → bindArgs (PySem.W.fnOf x qual (defArgs st) (defBody st) (defScope st) .none kV doc pm an cdv ct) ⟨us, ks.zip ws⟩ = pure (ps.zip (arr .none p (us ++ ws))))
    (hl : ∀ i ∈ p, i < n + ks.length) (hp : p.length = ps.length) : KwB K fd ps ks n p := by
  obtain ⟨oc, od, kV, doc, pm, an, cdv, ct, osl, rfl, lk, hcd⟩ := F.ex
  exact ⟨fun s us ws h1 h2 => .of_eq (h kV doc pm an cdv ct us ws h1 h2), hl, hp⟩
end
end DL
namespace DL
open PySem PySem.Spec PyProof.Rows L2 LamX
theorem cx_no {P : Program} {w : World} {H : Hp} {s : Shared} {e : Value} {s' : Shared} (h : L2.CX P w [] H s (fun _ _ _ => False) e s') : False := by
  obtain ⟨_, _, _, _, _, _, _, _, _, _, _, _, z⟩ := h
  exact z.elim
theorem one_tab {T : List (Addr × Str)} (d : T.Pairwise fun x y => x.1 ≠ y.1) {P : Addr} {q : Str} (h : (P, q) ∈ T) {p : Addr × Str} (hp : p ∈ T) (e : p.1 = P) : p.2 = q := by
  induction T with
  | nil => cases h
  | cons x T ih =>
    rw [List.pairwise_cons] at d
    rcases List.mem_cons.mp h with h1 | h1 <;> rcases List.mem_cons.mp hp with h2 | h2
    · rw [h2, ← h1]
    · exact absurd (show x.1 = p.1 by rw [← h1]; exact e.symm) (d.1 p h2)
    · exact absurd (show x.1 = P by rw [← h2]; exact e) (d.1 (P, q) h1)
    · exact ih d.2 h1 h2
/-- the promise of law(script) -/
theorem law_sp {K : PySem.W.Frag} {R : FR} {T : List (Addr × Str)} {H : Hp} {a : Addr} {ns : List Int} (hT : ∀ x ∈ T, H x.1 = some (.tbl #[])) (hs : SqL K H a (ns.map V.int)) (hR : R ⟨[.dat (scrD ns)], T⟩ (.rt (.bool true) ⟨[.dat (scrD ns)], T⟩)) :
    spF K R [.ref a] H (fun v _ => v = .bl true) (fun _ _ _ => False) := by
  have fin : ∀ F : Hp, Ex F H → (∀ b o, F b = some o → NoTbl o) → SqL K F a (ns.map V.int) → spF K R [.ref a] H (fun v _ => v = .bl true) (fun _ _ _ => False) := fun F eF nt hF =>
    ⟨⟨[.dat (scrD ns)], T⟩, F, fun _ _ => False, _, ⟨eF, rfl, fun i x h => by
      cases i with
      | zero => simp at h; subst h; exact ⟨.ref a, rfl, .scr hF⟩
      | succ i => simp at h, fun x hx => TabS.nil (hT x hx), fun _ _ _ _ h => h.elim, fun _ _ h => h.elim, fun _ _ h => h.elim, nt⟩, hR, fun v H' F' fp' e st av => by cases av; rfl⟩
  rcases hs with hr | hk
  · have mk : ∀ o, H a = some o → NoTbl o → Rd (fun b => if b = a then H b else none) a (.lst (ns.map V.int)) → spF K R [.ref a] H (fun v _ => v = .bl true) (fun _ _ _ => False) := fun o ho hn hr' => by
      refine fin (fun b => if b = a then H b else none) (fun b u q => ?_) (fun b u q => ?_) (.inl hr')
      · have q : (if b = a then H b else none) = some u := q
        split at q
        · exact q
        · cases q
      · have q : (if b = a then H b else none) = some u := q
        by_cases e : b = a
        · rw [if_pos e, e, ho] at q; cases q; exact hn
        · rw [if_neg e] at q; cases q
    rcases hr with h | ⟨o, h⟩
    · exact mk _ h (by intro ps z; cases z) (.inl (by simp [h]))
    · exact mk _ h (by intro ps z; cases z) (.inr ⟨o, by simp [h]⟩)
  · exact fin (fun _ => none) (fun _ _ q => nomatch q) (fun _ _ q => nomatch q) (.inr hk)
theorem law_at {l : PySem.W.OpenLaw} {w : World} {K : PySem.W.Frag} {CX : CXT} {k n : Nat} {mg : Str → Option Value} {fa : Addr} {h : Heap} {fd : FuncData} {R : FR} {ta : List (Addr × Str)} {cs : List (Addr × Addr)}
    (hT : ∀ p ∈ cs, h.get? p.2 = some { cls := .none, data := .fields #[] }) (nT : ∀ p ∈ cs, K.lookup p.2 = none) (hC : ∀ p ∈ cs, PySem.W.CodeHd h p.1 p.2)
    (hb : ∀ (s : Shared) (u : Value), BindsTo s fd ⟨[u], []⟩ [("script", u)]) (hcs : ∀ x ∈ ta, ∃ c, (c, x.1) ∈ cs)
    (hR : ∀ ns : List Int, ns.length ≤ n → R ⟨[.dat (scrD ns)], ta⟩ (.rt (.bool true) ⟨[.dat (scrD ns)], ta⟩))
    (hF : ∀ base : Heap, K.In base → base.Ns mainGlobals mg → (∀ p ∈ cs, TabB base mg p.1 p.2) → FnOk l.prog w K mg base CX k fa fd ["script"] (spF K R)) : LawAtS l w K CX k n "script" mg fa h :=
  ⟨fd, cs, spF K R, hT, nT, hC, hb, fun H a ns hl _ ht hs => law_sp (fun x hx => by obtain ⟨c, hc⟩ := hcs x hx; exact ht _ hc) hs (hR ns hl), hF⟩
end DL

namespace CM
open PySem PySem.Spec PyProof.Rows L2 DL
/-! ### the dice -/
structure Dice where
  a : Int
  b : Int
  c : Int
def dl (d : Dice) : List D := [.int d.a, .int d.b, .int d.c]
def rd (d : Dice) (t : Int) : Dice := if 0 < d.a then ⟨d.a / t, d.b, d.c⟩ else ⟨d.a, (d.b * 52501 + (d.c + 1) * (d.c + 1) * 1009 + 77) % 2147480009, d.c + 1⟩
def rv (d : Dice) (t : Int) : Int := if 0 < d.a then d.a % t else (rd d t).b / 211 % t
structure DOk (n : Int) (d : Dice) : Prop where
  b0 : 0 ≤ d.b
  b1 : d.b < 2147480009
  c0 : 0 ≤ d.c
  c1 : d.c ≤ n
theorem DOk.rd {n t : Int} {d : Dice} (h : DOk n d) : DOk (n + 1) (CM.rd d t) := by
  unfold CM.rd
  have := h.b0; have := h.b1; have := h.c0; have := h.c1
  split
  · exact ⟨h.b0, h.b1, h.c0, by show d.c ≤ n + 1; omega⟩
  · refine ⟨Int.emod_nonneg _ (by decide), Int.emod_lt_of_pos _ (by decide), by show 0 ≤ d.c + 1; omega, by show d.c + 1 ≤ n + 1; omega⟩
theorem DOk.up {n m : Int} {d : Dice} (h : DOk n d) (hm : n ≤ m) : DOk m d := ⟨h.b0, h.b1, h.c0, Int.le_trans h.c1 hm⟩
theorem rv0 {d : Dice} {t : Int} (ht : 0 < t) : 0 ≤ rv d t := by unfold rv; split <;> exact Int.emod_nonneg _ (by omega)
theorem rv1 {d : Dice} {t : Int} (ht : 0 < t) : rv d t < t := by unfold rv; split <;> exact Int.emod_lt_of_pos _ ht
def pick (d : Dice) (xs : List D) : D := xs.getD (rv d xs.length).toNat .none
theorem pick_mem {d : Dice} {xs : List D} (h : xs ≠ []) : pick d xs ∈ xs := by
  have hl : 0 < xs.length := List.length_pos_iff.mpr h
  have h0 := rv0 (d := d) (t := xs.length) (by omega)
  have h1 := rv1 (d := d) (t := xs.length) (by omega)
  unfold pick
  have hi : (rv d xs.length).toNat < xs.length := by omega
  rw [List.getD_eq_getElem?_getD, List.getElem?_eq_getElem hi]
  exact List.getElem_mem _
theorem pick_at {d : Dice} {xs : List D} (h : xs ≠ []) : atI xs (rv d xs.length) = some (pick d xs) := by
  have hl : 0 < xs.length := List.length_pos_iff.mpr h
  have h0 := rv0 (d := d) (t := xs.length) (by omega)
  have h1 := rv1 (d := d) (t := xs.length) (by omega)
  have hi : (rv d xs.length).toNat < xs.length := by omega
  have e : ixN xs.length (rv d xs.length) = some (rv d xs.length).toNat := by
    unfold ixN
    simp [h0, h1, hi]
  unfold atI pick
  rw [e]
  show xs[(rv d xs.length).toNat]? = _
  rw [List.getD_eq_getElem?_getD, List.getElem?_eq_getElem hi]
  rfl
end CM

namespace DL
open PySem PySem.Spec PyProof.Rows L2
/-! ### zip of two sequences, each a list or a tuple -/
def SqK (k : Bool) (K : PySem.W.Frag) (H : Hp) (a : Addr) (xs : List V) : Prop := if k = true then SqL K H a xs else SqT K H a xs
def IsSq (k : Bool) (h : Heap) (a : Addr) (its : Array Value) : Prop := if k = true then h.IsList a its else h.IsTuple a its
def IsSqI (k : Bool) (h : Heap) (it a : Addr) (i : Nat) : Prop := if k = true then h.IsListIter it a i else h.IsTupleIter it a i
def itO (k : Bool) (a : Addr) : Obj := { cls := .type (if k = true then "list_iterator" else "tuple_iterator"), data := .fields #[.ref a, .int 0 0] }
section
variable {X : Cx} {pins : List (Addr × Obj)} {s : Shared} {σ : L2.St} {H : Hp} {k k1 k2 : Bool} {a b : Addr} {xs ys : List V}
theorem sqk_items (I : Inv X pins σ H s) (h : SqK k X.K H a xs) : ∃ its : List Value, Vals xs its ∧ IsSq k s.heap a its.toArray ∧ a < s.heap.objs.size := by
  cases k with
  | true =>
    obtain ⟨its, r, p, _⟩ := I.list (show SqL X.K H a xs from h)
    exact ⟨its, r, p.isList, p.lt⟩
  | false =>
    obtain ⟨its, r, p, _⟩ := I.tuple (show SqT X.K H a xs from h)
    have p' : s.heap.IsTuple a its.toArray := p
    obtain ⟨o, ho, _⟩ := id p'
    exact ⟨its, r, p', Heap.lt_size ho⟩
theorem sqk_inj (I : Inv X pins σ H s) (h : SqK k X.K H a xs) (h' : SqK k X.K H a ys) : xs = ys := by
  cases k with
  | true => exact I.list_inj (show SqL X.K H a xs from h) (show SqL X.K H a ys from h')
  | false => exact I.tuple_inj (show SqT X.K H a xs from h) (show SqT X.K H a ys from h')
theorem sqk_draws {prog : Program} {w : World} {A : Around} (hh : A.handled = none) (it : Addr) (hne : a ≠ it) (items : Array Value) : Draws prog w A it [it, a] items.size (fun i v => items[i]? = some v) (fun i h => IsSqI k h it a i ∧ IsSq k h a items) := by
  cases k with
  | true => exact Draws.list hh it a hne items
  | false => exact Draws.tuple hh it a hne items
theorem sqk_begins (items : Array Value) : Begins (.ref a) (itO k a) fun h => IsSq k h a items := by
  cases k with
  | true => exact begins_list a items
  | false => exact begins_tuple a items
theorem sqi_at {h h' : Heap} {it : Addr} {i : Nat} (x : IsSqI k h it a i) (hk : ∀ o, h.get? it = some o → h'.get? it = some o) : IsSqI k h' it a i := by
  cases k with
  | true => exact Heap.IsListIter.at (show h.IsListIter it a i from x) hk
  | false => exact Heap.IsTupleIter.at (show h.IsTupleIter it a i from x) hk
theorem sqi_obj {h : Heap} {it : Addr} {i : Nat} (x : IsSqI k h it a i) : ∃ o, h.get? it = some o ∧ ∀ v, o.data ≠ .cell v := by
  cases k with
  | true =>
    obtain ⟨o, e, _, d⟩ := (show h.IsListIter it a i from x)
    exact ⟨o, e, fun v q => by rw [d] at q; cases q⟩
  | false =>
    obtain ⟨o, e, _, d⟩ := (show h.IsTupleIter it a i from x)
    exact ⟨o, e, fun v q => by rw [d] at q; cases q⟩
end
def ItzU (K : PySem.W.Frag) (k1 k2 : Bool) (a b : Addr) : It where
  go := fun i H => ∃ (xs ys : List V) (x y : V), SqK k1 K H a xs ∧ SqK k2 K H b ys ∧ xs[i]? = some x ∧ ys[i]? = some y
  yld := fun i H v H' => ∃ T x y, v = .ref T ∧ H T = none ∧ H' = upd H T (.tup [x, y]) ∧ (∀ xs, SqK k1 K H a xs → xs[i]? = some x) ∧ ∀ ys, SqK k2 K H b ys → ys[i]? = some y
  stop := fun i H => ∃ xs ys : List V, SqK k1 K H a xs ∧ SqK k2 K H b ys ∧ i ≤ xs.length ∧ i ≤ ys.length ∧ (i = xs.length ∨ i = ys.length)
theorem sq_len {k : Bool} {K : PySem.W.Frag} : True := trivial
theorem turn_zipU {P : Program} {w : World} {K : PySem.W.Frag} {elts : List Expr} {kk : Nat} {tpos : Pos} {k1 k2 : Bool} {a b z TI TO i1 i2 : Addr} (S : ZipSep2 z TI TO i1 i2 [i1, a] [i2, b]) (ha : a ≠ i1) (hb : b ≠ i2) :
    Turn P w K (.Tuple elts kk tpos) (ItzU K k1 k2 a b) [z, TI, TO, i1, i2] z (fun i h => IsZip h z TI TO .none ∧ IsTupOf2 h TI (.ref i1) (.ref i2) ∧ (∃ x y, IsTupOf2 h TO x y) ∧ IsSqI k1 h i1 a i ∧ IsSqI k2 h i2 b i) where
  mem := by simp
  obj := fun i h ⟨hz, hTI, ⟨x, y, hTO⟩, h1, h2⟩ c hc => by
    simp only [List.mem_cons, List.not_mem_nil, or_false] at hc
    rcases hc with rfl | rfl | rfl | rfl | rfl
    · exact ⟨_, hz, fun v q => nomatch q⟩
    · exact ⟨_, hTI, fun v q => nomatch q⟩
    · exact ⟨_, hTO, fun v q => nomatch q⟩
    · exact sqi_obj h1
    · exact sqi_obj h2
  keep := fun i h h' ⟨hz, hTI, ⟨x, y, hTO⟩, h1, h2⟩ kp => ⟨kp z (by simp) _ hz, kp TI (by simp) _ hTI, ⟨x, y, kp TO (by simp) _ hTO⟩, sqi_at h1 fun o q => kp i1 (by simp) o q, sqi_at h2 fun o q => kp i2 (by simp) o q⟩
  item := by
    intro X hP hw hK hc i pins s σ H E I hf st hg
    subst hP hw hK
    obtain ⟨hz, hTI, ⟨x0, y0, hTO⟩, h1, h2⟩ := st
    obtain ⟨xs, ys, x, y, hqx, hqy, hx, hy⟩ := hg
    obtain ⟨its, rv, p, _⟩ := sqk_items I hqx
    obtain ⟨its2, rv2, p2, _⟩ := sqk_items I hqy
    obtain ⟨u, hu, ru⟩ := rv.get hx
    obtain ⟨u2, hu2, ru2⟩ := rv2.get hy
    have hh : X.A.in1.handled = none := I.ok.hd hc
    have zlt : z < s.heap.objs.size := Heap.lt_size hz
    have l1 : i < its.toArray.size := by simpa using (List.getElem?_eq_some_iff.mp hu).1
    have l2 : i < its2.toArray.size := by simpa using (List.getElem?_eq_some_iff.mp hu2).1
    refine wpAny_pyNext_zipD2_item S (sqk_draws hh i1 ha its.toArray) (sqk_draws hh i2 hb its2.toArray) hz hTI hTO ⟨h1, p⟩ ⟨h2, p2⟩ l1 l2 fun x1 x2 h' tk e1 e2 z' TO' h1' h2' hT hsz hk => ?_
    have e1' : its[i]? = some x1 := by simpa using e1
    have e2' : its2[i]? = some x2 := by simpa using e2
    rw [hu] at e1'; cases e1'
    rw [hu2] at e2'; cases e2'
    refine ⟨_, rfl, wpAny_letOwnedTupleGo_zip (s := { s with heap := h', toks := tk }) z' fun h'' z'' sb => ?_⟩
    have hT2 : h''.get? s.heap.objs.size = some { cls := .type "tuple", data := .seq #[u, u2] } := (sb.2 _ (Nat.ne_of_gt zlt)).trans hT
    have new : ObjOk X.prog X.w (upd H s.heap.objs.size (.tup [x, y])) h'' s.heap.objs.size (.tup [x, y]) := ⟨by show 2 ≤ sizeLine; decide, [u, u2], .cons ru (.cons ru2 .nil), ⟨_, hT2, rfl, _, rfl⟩⟩
    have kp : ∀ c o, c ∉ [z, TI, TO, i1, i2] → s.heap.get? c = some o → h''.get? c = some o := fun c o hb q => by
      simp only [List.mem_cons, List.not_mem_nil, or_false, not_or] at hb
      exact (sb.2 c hb.1).trans (hk c o hb.1 hb.2.2.1 hb.2.2.2.1 hb.2.2.2.2 q)
    have I1 : Inv X pins σ (upd H s.heap.objs.size (.tup [x, y])) { s with heap := h'', toks := tk } := I.turnedNew (t' := tk) (ch := [z, TI, TO, i1, i2]) kp hf (Nat.le_refl _) new
    refine ⟨.ref s.heap.objs.size, _, I1, rfl, ⟨_, x, y, rfl, I.hok.fresh (Nat.le_refl _), rfl, fun l hl => by rw [sqk_inj I hl hqx]; exact hx, fun l hl => by rw [sqk_inj I hl hqy]; exact hy⟩, ⟨z'', ?_, ⟨u, u2, ?_⟩, ?_, ?_⟩, fun c hcm => ?_⟩
    · exact (sb.2 _ S.TIz).trans (hk _ _ S.TIz S.TITO S.TIi1 S.TIi2 hTI)
    · exact (sb.2 _ S.TOz).trans TO'
    · exact sqi_at h1'.1 fun o q => (sb.2 _ (fun e => S.zf1 (by rw [← e]; exact List.mem_cons_self))).trans q
    · exact sqi_at h2'.1 fun o q => (sb.2 _ (fun e => S.zf2 (by rw [← e]; exact List.mem_cons_self))).trans q
    · have hlt : c < s.heap.objs.size := by
        simp only [List.mem_cons, List.not_mem_nil, or_false] at hcm
        rcases hcm with rfl | rfl | rfl | rfl | rfl
        · exact zlt
        · exact Heap.lt_size hTI
        · exact Heap.lt_size hTO
        · obtain ⟨o, e, _⟩ := sqi_obj h1; exact Heap.lt_size e
        · obtain ⟨o, e, _⟩ := sqi_obj h2; exact Heap.lt_size e
      rw [upd_ne (Nat.ne_of_lt hlt)]
      exact (hf c hcm).1
  done := by
    intro X hP hw hK hc i pins s σ H E I hf st hg
    subst hP hw hK
    obtain ⟨hz, hTI, ⟨x0, y0, hTO⟩, h1, h2⟩ := st
    obtain ⟨xs, ys, hqx, hqy, hi1, hi2, hend⟩ := hg
    obtain ⟨its, rv, p, _⟩ := sqk_items I hqx
    obtain ⟨its2, rv2, p2, _⟩ := sqk_items I hqy
    have l1 := rv.length
    have l2 := rv2.length
    have hh : X.A.in1.handled = none := I.ok.hd hc
    refine wpAny_pyNext_zipD2_end S (sqk_draws hh i1 ha its.toArray) (sqk_draws hh i2 hb its2.toArray) hz hTI hTO ⟨h1, p⟩ ⟨h2, p2⟩ (by simp; omega) (by simp; omega) (by simp; omega) fun h' tk hk => ⟨rfl, ?_⟩
    refine I.turnedL (t' := tk) (ch := [z, TI, TO, i1, i2]) (fun c o hb q => ?_) hf
    simp only [List.mem_cons, List.not_mem_nil, or_false, not_or] at hb
    exact hk c o hb.1 hb.2.2.1 hb.2.2.2.1 hb.2.2.2.2 q
  self := fun A i s Q E st h => wpAny_pyIter_zip st.1 h
theorem nm2 {x y z : Nat} (h1 : x ≠ y) (h2 : x ≠ z) : x ∉ [y, z] := fun h => by
  rcases List.mem_cons.mp h with h | h
  · exact h1 h
  · exact h2 (List.mem_singleton.mp h)
theorem zip_sep (n a b : Nat) (la : a < n) (lb : b < n) : ZipSep2 (n + 4) (n + 2) (n + 3) n (n + 1) [n, a] [n + 1, b] where
  TIz := show (n + 2 : Nat) ≠ n + 4 by omega
  TOz := show (n + 3 : Nat) ≠ n + 4 by omega
  TITO := show (n + 2 : Nat) ≠ n + 3 by omega
  TIi1 := show (n + 2 : Nat) ≠ n by omega
  mem1 := List.mem_cons_self
  zf1 := nm2 (by omega) (by omega)
  Tf1 := nm2 (by omega) (by omega)
  TIi2 := show (n + 2 : Nat) ≠ n + 1 by omega
  mem2 := List.mem_cons_self
  zf2 := nm2 (by omega) (by omega)
  Tf2 := nm2 (by omega) (by omega)
  sep1_2 := nm2 (by omega) (by omega)
  sep2_1 := nm2 (by omega) (by omega)
theorem zip_five {n c : Nat} (h : c ∈ [n + 4, n + 2, n + 3, n, n + 1]) : n ≤ c := by
  simp only [List.mem_cons, List.not_mem_nil, or_false] at h
  omega
def iZipU (K : PySem.W.Frag) (ta : TA) : TI := fun σ H R => ta σ H fun vs H1 => ∃ a b xs ys k1 k2, vs = [.ref a, .ref b] ∧ SqK k1 K H1 a xs ∧ SqK k2 K H1 b ys ∧ R (ItzU K k1 k2 a b) H1
theorem pi_zipU {X : Cx} {e e2 : Expr} {ta : TA} {p pos tpos : Pos} {elts : List Expr} {kk : Nat} (hg : Gl X "zip") (hm : X.mg "zip" = none) (ha : PA X [e, e2] ta)
    (hs : starEach [e, e2] X.env = (false, eval e X.env) :: starEach [e2] X.env := by rfl) (hpl : (backTo pos (starEach [e2] X.env)).any (·.1) = false := by rfl) : PI X (.Tuple elts kk tpos) (.Call (.Name "zip" p) [e, e2] [] pos) (iZipU X.K ta) := by
  refine ⟨fun pins s σ H R I h => Call_ (ld_blt I hg hm PyProof.Rows.boot_zip (PyProof.Rows.callWith_type1 (thn (ha.run pos pins s σ H _ I h) fun us s1 ⟨vs, H1, I1, r1, q1⟩ => ?_) hs hpl))⟩
  obtain ⟨a, b, xs, ys, k1, k2, ex, hqx, hqy, q⟩ := q1
  subst ex
  obtain ⟨rfl⟩ : us = [.ref a, .ref b] := by
    cases r1 with
    | cons r rr =>
      cases rr with
      | cons r' rr =>
        cases rr; cases r; cases r'; rfl
  obtain ⟨its, rv, p1, la⟩ := sqk_items I1 hqx
  obtain ⟨its2, rv2, p2, lb⟩ := sqk_items I1 hqy
  refine zip_begins2 (sqk_begins its.toArray) (sqk_begins its2.toArray) p1 p2 fun h' hz hTI hTO g1 g2 hsz hk => wpAny_pyIter_zip hz ?_
  have I2 : Inv X pins σ H1 { s1 with heap := h' } := I1.kept (t' := s1.toks) hk
  have S := zip_sep s1.heap.objs.size a b la lb
  have T := turn_zipU (P := X.prog) (w := X.w) (K := X.K) (elts := elts) (kk := kk) (tpos := tpos) (k1 := k1) (k2 := k2) S (Nat.ne_of_lt la) (Nat.ne_of_lt (Nat.lt_succ_of_lt lb))
  refine ⟨_, _, _, _, H1, rfl, I2, T, ⟨hz, hTI, ⟨_, _, hTO⟩, ?_, ?_⟩, fun c hcm => ?_, q⟩
  · cases k1 with
    | true => exact ⟨_, g1, rfl, rfl⟩
    | false => exact ⟨_, g1, rfl, rfl⟩
  · cases k2 with
    | true => exact ⟨_, g2, rfl, rfl⟩
    | false => exact ⟨_, g2, rfl, rfl⟩
  · have hle : s1.heap.objs.size ≤ c := zip_five hcm
    exact I1.fpOk hle (I1.hok.fresh hle)
/-! ### what is zipped, by data -/
def seqD : D → Option (List D)
  | .list ds => some ds
  | .tuple ds => some ds
  | _ => none
theorem at_seq {K : PySem.W.Frag} {F : Hp} {v : V} {d : D} {ds : List D} (h : At K F v d) (e : seqD d = some ds) : ∃ (k : Bool) (a : Addr) (vs : List V), v = .ref a ∧ SqK k K F a vs ∧ AtAll K F vs ds := by
  cases h with
  | lst h t => cases e; exact ⟨true, _, _, rfl, .inl (.inl h), t⟩
  | tup h t => cases e; exact ⟨false, _, _, rfl, h, t⟩
  | non => cases e
  | bl b => cases e
  | int i => cases e
  | str x => cases e
  | dic h t => cases e
  | scr h => cases e
  | obj h1 h2 t => cases e
  | zic h t => cases e
theorem Ex.sqK {K : PySem.W.Frag} {H H' : Hp} {a : Addr} {xs : List V} {k : Bool} (e : Ex H H') (h : SqK k K H a xs) : SqK k K H' a xs := by
  cases k with
  | true => exact e.sqL (show SqL K H a xs from h)
  | false => exact e.sqT (show SqT K H a xs from h)
def zipD (xs ys : List D) : List D := (xs.zip ys).map fun p => .tuple [p.1, p.2]
theorem it_zip {K : PySem.W.Frag} {s s1 : S} {ta : TA} {d1 d2 : D} {xs ys : List D} (h : EvA K ta s [d1, d2] s1) (h1 : seqD d1 = some xs) (h2 : seqD d2 = some ys) : IterD K (iZipU K ta) s (zipD xs ys) s1 := fun σ H F fp e R r =>
  h σ H F fp e _ fun vs H1 F1 fp1 e1 st1 a1 => by
    match vs, a1 with
    | [v1, v2], .cons b1 (.cons b2 .nil) =>
      obtain ⟨k1, a, us, rfl, q1, t1⟩ := at_seq b1 h1
      obtain ⟨k2, b, ws, rfl, q2, t2⟩ := at_seq b2 h2
      have l1 := t1.length
      have l2 := t2.length
      refine ⟨a, b, us, ws, k1, k2, rfl, e1.ex.sqK q1, e1.ex.sqK q2, r _ H1 F1 fp1 e1 st1 fun F' H' i hF hH => ⟨fun d hd => ?_, fun hi => ?_⟩⟩
      · unfold zipD at hd
        obtain ⟨p, hp, rfl⟩ := map_at hd
        obtain ⟨p1, p2⟩ := List.getElem?_zip_eq_some.mp hp
        obtain ⟨u, hu, hau⟩ := t1.get p1
        obtain ⟨w, hw, haw⟩ := t2.get p2
        refine ⟨⟨us, ws, u, w, hH.sqK (hF.sqK q1), hH.sqK (hF.sqK q2), hu, hw⟩, fun x H2 hy => ?_⟩
        obtain ⟨T, x', y', rfl, hT, rfl, f1, f2⟩ := hy
        have ex := f1 us (hH.sqK (hF.sqK q1))
        have ey := f2 ws (hH.sqK (hF.sqK q2))
        rw [hu] at ex; cases ex
        rw [hw] at ey; cases ey
        have g := Grow.laid (o := .tup [u, w]) hH hT
        exact ⟨_, g, .tup (.inl (.inl upd_same)) ((AtAll.cons (hau.ex hF) (.cons (haw.ex hF) .nil)).ex g.f)⟩
      · unfold zipD at hi
        rw [List.length_map, List.length_zip] at hi
        exact ⟨us, ws, hH.sqK (hF.sqK q1), hH.sqK (hF.sqK q2), by omega, by omega, by omega⟩
end DL

namespace SrtO
open PySem PyProof.Rows Srt
section
variable {prog : Program} {w : World} {A : Around} {E : Value → Shared → Prop} {s : Shared}
/-- sorted of a list or a tuple: the new list's place is told by no more than that it is new -/
theorem sorted_any {t : Addr} {T : String} {ot : Obj} {vs : List Value} {n : Nat} {ltv : Value → Value → Bool} {Q : Value → Shared → Prop} (O : Swo ltv) (hT : T = "list" ∨ T = "tuple") (ht : s.heap.get? t = some ot) (hc : ot.cls = .type T) (hd : ot.data = .seq vs.toArray n) (hz : vs.length ≤ sizeLine)
    (hS : 2 ≤ vs.length → ∀ (h1 : Heap) (a : Addr), h1.get? a = some (seqObj "list" vs.toArray 0) → (∀ b o, s.heap.get? b = some o → b ≠ a ∧ h1.get? b = some o) → SortableO prog w A.in1.in1 { s with heap := h1 } a vs ltv)
    (h : ∀ (out : List Value) (h2 : Heap) (a e : Nat), Srtd ltv out → Stb ltv out vs → s.heap.get? a = none → (∀ b o, s.heap.get? b = some o → h2.get? b = some o) → h2.get? a = some (seqObj "list" out.toArray e) → Q (.ref a) { s with heap := h2 }) :
    wpAny (model prog w) A (call (.builtin "sorted") [.ref t]) Q E s := by
  refine Calls.call_function_entry kind_sorted plain_sorted entry_sorted (args_sorted1 _) ?_
  show wpAny _ _ (checkCount "sorted" 1 1 _ >>= _) _ _ _
  refine wpAny_bind (wpAny_pure (wpAny_bind (wpAny_collect_seq t hT ht hc hd (fun g kp => ?_) (by rw [List.size_toArray]; exact hz))))
  have hoL : (g.push (seqObj "list" vs.toArray 0)).get? g.objs.size = some (seqObj "list" vs.toArray 0) := Heap.get?_push_size _ rfl
  have old : ∀ b o, s.heap.get? b = some o → b < g.objs.size := fun b o q => Heap.lt_size (kp b o q)
  have keep : ∀ b o, s.heap.get? b = some o → b ≠ g.objs.size ∧ (g.push (seqObj "list" vs.toArray 0)).get? b = some o := fun b o q => ⟨Nat.ne_of_lt (old b o q), Heap.get?_push_of_some _ (kp b o q)⟩
  refine wpAny_bind (wpAny_newList ?_ hz)
  refine wpAny_bind (wpAny_holding (wpAny_call_entry (s := { s with heap := g.push (seqObj "list" vs.toArray 0) }) slot_list_sort ⟨_, hoL, rfl⟩ entry_list_sort (list_sort_ord O hoL hz (fun h2 => hS h2 _ _ hoL keep) fun out hs hb => ⟨_, rfl, ?_⟩) (args_list_sort _)))
  obtain ⟨e, he⟩ := sortedHeap_at (out := out.toArray) hoL
  have big : s.heap.get? g.objs.size = none := by
    cases q : s.heap.get? g.objs.size with
    | none => rfl
    | some o => exact absurd (old _ o q) (Nat.lt_irrefl _)
  refine wpAny_pure ⟨_, rfl, h out _ _ e hs hb big (fun b o q => ?_) he⟩
  have := keep b o q
  rw [sortedHeap_old this.1 (by rw [Heap.size_push]; exact Nat.lt_succ_of_lt (old b o q))]
  exact this.2
end
end SrtO
namespace DL
open PySem PySem.Spec PyProof.Rows L2
def sortOkV : List D → Prop
  | [.list ds] => (intsOf ds).isSome = true
  | [.tuple ds] => (intsOf ds).isSome = true
  | _ => False
def sortLV : List D → List D
  | [.list ds] => (sortI ((intsOf ds).getD [])).map PyData.int
  | [.tuple ds] => (sortI ((intsOf ds).getD [])).map PyData.int
  | _ => []
section
variable {X : Cx}
theorem sort_sq {k : Bool} {pins : List (Addr × Obj)} {s : Shared} {σ : L2.St} {H : Hp} {a : Addr} {ns : List Int} {Q : VK} (I : Inv X pins σ H s) (hs : SqK k X.K H a (ns.map V.int))
    (q : ∀ (ns' : List Int) (p : Addr), ns'.Perm ns → ns'.Pairwise (· ≤ ·) → H p = none → Q (.ref p) (upd H p (.lst (ns'.map V.int)))) : wpAny (model X.prog X.w) X.A (call (.builtin "sorted") [.ref a]) (EP X pins σ Q) X.xe s := by
  have base : ∃ (its : List Value) (T : String) (ot : Obj) (n : Nat), Vals (ns.map V.int) its ∧ (T = "list" ∨ T = "tuple") ∧ s.heap.get? a = some ot ∧ ot.cls = .type T ∧ ot.data = .seq its.toArray n ∧ its.length ≤ sizeLine := by
    cases k with
    | true =>
      obtain ⟨its, rv, hl, hz⟩ := I.list (show SqL X.K H a _ from hs)
      obtain ⟨o, n, h1, h2, _, h3⟩ := hl
      exact ⟨its, "list", o, n, rv, .inl rfl, h1, h2, h3, by rw [← rv.length]; exact hz⟩
    | false =>
      obtain ⟨its, rv, hl, hz⟩ := I.tuple (show SqT X.K H a _ from hs)
      obtain ⟨o, h1, h2, n, h3⟩ := hl
      exact ⟨its, "tuple", o, n, rv, .inr rfl, h1, h2, h3, by rw [← rv.length]; exact hz⟩
  obtain ⟨its, T, ot, n, rv, hT, h1, h2, h3, hz⟩ := base
  have hi := rv.ints
  refine SrtO.sorted_any SrtO.swo_int hT h1 h2 h3 hz (fun h2 h₁ a' _ _ => SrtO.ints_sortable hi h2) fun out g p e s1 s2 hp kp hg => ?_
  obtain ⟨k1, k2, k3⟩ := SrtO.ints_out hi s1 s2
  have hn : H p = none := I.hok.gone hp
  have hlen : ((out.map SrtO.iv).map V.int).length ≤ sizeLine := by
    rw [List.length_map, k2.length_eq, ← List.length_map (f := V.int), rv.length]
    exact hz
  exact ⟨.ref p, upd H p (.lst ((out.map SrtO.iv).map V.int)), I.laidN (t' := s.toks) kp hp hn ⟨hlen, out, e, vals_of_ints k1, hg⟩, rfl, q _ _ k2 k3 hn⟩
theorem call_sortV : CallR X (.builtin "sorted") (rDl X.K sortOkV sortLV) := by
  intro pins s σ H xs us Q I r ⟨F, ds, e, ha, ok, k⟩
  match ds, ok, ha with
  | [.list ds], o2, .cons h1 .nil =>
    obtain ⟨p, vs, rfl, h2, h3⟩ := h1.lst e
    obtain ⟨ns, hn⟩ := Option.isSome_iff_exists.mp o2
    have ee := intsOf_eq hn
    subst ee
    rw [h3.ints] at h2
    rw [Vals.ref1 r]
    refine sort_sq (k := true) I (show SqL X.K H p _ from .inl (.inl h2)) fun ns' q hp hs hq => ?_
    have e1 : ns' = sortI ns := sorted_unique (hp.trans (sortI_perm ns).symm) hs (sortI_sorted ns)
    have : sortLV [.list (ns.map PyData.int)] = (sortI ns).map PyData.int := by simp only [sortLV, hn, Option.getD_some]
    rw [this] at k
    subst e1
    exact k q _ hq AtAll.of_ints
  | [.tuple ds], o2, .cons h1 .nil =>
    obtain ⟨p, vs, rfl, h2, _, h3⟩ := h1.tup e
    obtain ⟨ns, hn⟩ := Option.isSome_iff_exists.mp o2
    have ee := intsOf_eq hn
    subst ee
    rw [h3.ints] at h2
    rw [Vals.ref1 r]
    refine sort_sq (k := false) I (show SqT X.K H p _ from h2) fun ns' q hp hs hq => ?_
    have e1 : ns' = sortI ns := sorted_unique (hp.trans (sortI_perm ns).symm) hs (sortI_sorted ns)
    have : sortLV [.tuple (ns.map PyData.int)] = (sortI ns).map PyData.int := by simp only [sortLV, hn, Option.getD_some]
    rw [this] at k
    subst e1
    exact k q _ hq AtAll.of_ints
end
section
variable {K : PySem.W.Frag} {s s1 : S} {te : TE} {ns : List Int}
theorem ev_sortL (h : Ev K te s (.list (ns.map PyData.int)) s1) : Ev K (tCB (rDl K sortOkV sortLV) (tCons te tNil)) s (.list ((sortI ns).map PyData.int)) s1 := by
  refine (ev_cl (ea_cons h ea_nil) (by show (intsOf (ns.map PyData.int)).isSome = true; rw [intsOf_map]; rfl)).to ?_
  simp [sortLV, intsOf_map]
theorem ev_sortT (h : Ev K te s (.tuple (ns.map PyData.int)) s1) : Ev K (tCB (rDl K sortOkV sortLV) (tCons te tNil)) s (.list ((sortI ns).map PyData.int)) s1 := by
  refine (ev_cl (ea_cons h ea_nil) (by show (intsOf (ns.map PyData.int)).isSome = true; rw [intsOf_map]; rfl)).to ?_
  simp [sortLV, intsOf_map]
end
end DL
namespace DL
open PySem PySem.Spec PyProof.Rows L2
/-! ### a tuple some times over -/
theorem rep_len {α : Type} (n : Nat) (l : List α) : (List.replicate n l).flatten.length = n * l.length := PyProof.Rows.lm_len_rep_flat ..
theorem mul_small {n : Nat} {k : Int} (h1 : 2 ≤ k) (h : n * k.toNat ≤ 1000000) : ((n : Nat) : Int) * k ≤ 1000000 := by
  have e : ((k.toNat : Nat) : Int) = k := by omega
  rw [← e, ← Int.natCast_mul]
  omega
theorem tup_times {X : Cx} {pins : List (Addr × Obj)} {s : Shared} {σ : L2.St} {H : Hp} {l : Addr} {k : Int} {t : Tok} {xs : List V} {Q : VK} (I : Inv X pins σ H s) (hT : SqT X.K H l xs) (hne : xs ≠ []) (h1 : 2 ≤ k) (hz : xs.length * k.toNat ≤ 1000000)
    (q : ∀ p, H p = none → Q (.ref p) (upd H p (.tup (List.replicate k.toNat xs).flatten))) : wpAny (model X.prog X.w) X.A (binaryOp .Mult (.ref l) (.int k t)) (EP X pins σ Q) X.xe s := by
  obtain ⟨its, r, ⟨⟨cls, dd, data, sl⟩, ho, hc, n, hd⟩, hs⟩ := I.tuple hT
  obtain rfl : cls = .type "tuple" := hc
  obtain rfl : data = .seq its.toArray n := hd
  have hle : xs.length = its.length := r.length
  have hpos : 0 < its.length := by rw [← hle]; exact List.length_pos_iff.mpr hne
  have hm : ((its.toArray.size : Nat) : Int) * k ≤ 1000000 := by rw [List.size_toArray]; exact mul_small h1 (by rw [← hle]; exact hz)
  have e0 : its.toArray.isEmpty = false := by cases its with
    | nil => exact absurd hpos (by simp)
    | cons a b => rfl
  have flat : (List.replicate k.toNat its).flatten.length ≤ sizeLine := by rw [rep_len, ← hle, Nat.mul_comm]; exact le_size (by omega)
  have hk : k ≤ 1000000 := by
    have a1 : 1 * k.toNat ≤ xs.length * k.toNat := Nat.mul_le_mul_right _ (by omega)
    omega
  have c0 : (decide (k < -(2 ^ 63)) || decide (k ≥ 2 ^ 63)) = false := by simp only [Bool.or_eq_false_iff, decide_eq_false_iff_not]; omega
  have c1 : (its.toArray.isEmpty || k == 1) = false := by simp only [e0, Bool.false_or, beq_eq_false_iff_ne]; omega
  have c2 : (decide (k ≤ 0) || its.toArray.isEmpty) = false := by simp only [e0, Bool.or_false, decide_eq_false_iff_not]; omega
  have c4 : Builtin.Tuple.tupleTooMany (((its.toArray.size : Nat) : Int) * k) = false := by
    unfold Builtin.Tuple.tupleTooMany
    rw [sizeLine_eq]
    simp only [decide_eq_false_iff_not]; omega
  have fin : ∀ s' : Shared, s' = { s with heap := s.heap.push { cls := .type "tuple", data := .seq (List.replicate k.toNat its).flatten.toArray } } → EP X pins σ Q (.ref s.heap.objs.size) s' := fun s' hs' => by
    subst hs'
    refine ⟨.ref s.heap.objs.size, _, I.laid (t' := s.toks) (o := .tup (List.replicate k.toNat xs).flatten) (fun b ob e => Heap.get?_push_of_some _ e) (Nat.le_refl _) ⟨?_, _, r.rep k.toNat, IsTup.new _ _⟩, rfl, q _ (I.hok.fresh (Nat.le_refl _))⟩
    rw [rep_len, hle, ← rep_len]
    exact flat
  have meets := tuple_mulW l its.toArray n dd sl k t c0 c1 c2 (by omega) c4 (by rw [size_rep, List.size_toArray]; exact flat)
  refine wpAny_binaryOp_repeat_ref (T := "tuple") (U := "int") (by decide) ⟨_, ho, rfl⟩ (fun s' => typeIs_int s' k t) noFill_tuple_mul F.fills_int_mul F.slot_int_rmul repeat_tuple F.slot_int_index.lookup ?_
  refine call_meets F.slot_int_rmul (typeIs_int s k t) F.entry_int_rmul (F.args_int_rmul_2 _ _) (int_rmul_tuple k t l its.toArray n dd sl) ⟨ho, rfl, ⟨_, ho, rfl⟩, ?_⟩
  refine call_meets F.slot_tuple_mul ⟨_, ho, rfl⟩ F.entry_tuple_mul (F.args_tuple_mul_2 _ _) meets ⟨ho, ?_⟩
  rw [size_rep]
  exact fin _ rfl
def mulOkV : D → D → Prop
  | .int a, .int b => CMul a b
  | .list a, .int k => -(2 ^ 63) ≤ k ∧ k < 2 ^ 63 ∧ a.length * k.toNat ≤ sizeLine
  | .tuple a, .int k => a ≠ [] ∧ 2 ≤ k ∧ a.length * k.toNat ≤ 1000000
  | _, _ => False
theorem op_mulV {X : Cx} : OpR X (binaryOp .Mult) (rD2 X.K mulOkV mulD) := by
  intro pins s σ H x y v u Q I rx ry ⟨F, dx, dy, e, hx, hy, ok, k⟩
  match dx, dy, ok with
  | .int i, .int j, ok => exact op_mulU pins s σ H x y v u Q I rx ry ⟨F, .int i, .int j, e, hx, hy, ok, k⟩
  | .list a, .int j, ok => exact op_mulU pins s σ H x y v u Q I rx ry ⟨F, .list a, .int j, e, hx, hy, ok, k⟩
  | .tuple a, .int j, ⟨o0, o1, o2⟩ =>
    obtain ⟨p, vs, rfl, h1, h1', h2⟩ := hx.tup e
    have q2 := hy.int
    subst q2
    cases rx
    obtain ⟨t, rfl⟩ := ry
    refine tup_times I h1 (fun z => o0 (by cases h2 with | nil => rfl | cons _ _ => cases z)) o1 (by rw [h2.length]; exact o2) fun r hr => ?_
    have g := Grow.laid (o := .tup (List.replicate j.toNat vs).flatten) e hr
    exact k _ _ _ g (.tup (.inl (.inl upd_same)) ((h2.flat _).ex g.f))
section
variable {K : PySem.W.Frag} {E : XK} {s s1 s2 : S} {ta tb te : TE} {a b : Int} {ds : List D} {ns : List Int} {i : Nat} {ov ov' : Option V}
theorem ev_mulVI (ha : Ev K ta s (.int a) s1) (hb : Ev K tb s1 (.int b) s2) (h : CMul a b) : Ev K (tOp (rD2 K mulOkV mulD) ta tb) s (.int (a * b)) s2 := ev_op ha hb h
theorem ev_mulVT (ha : Ev K ta s (.tuple ds) s1) (hb : Ev K tb s1 (.int b) s2) (h : ds ≠ [] ∧ 2 ≤ b ∧ ds.length * b.toNat ≤ 1000000) : Ev K (tOp (rD2 K mulOkV mulD) ta tb) s (.tuple (List.replicate b.toNat ds).flatten) s2 := ev_op ha hb h
theorem ev_mulVL (ha : Ev K ta s (.list ds) s1) (hb : Ev K tb s1 (.int b) s2) (h : -(2 ^ 63) ≤ b ∧ b < 2 ^ 63 ∧ ds.length * b.toNat ≤ sizeLine) : Ev K (tOp (rD2 K mulOkV mulD) ta tb) s (.list (List.replicate b.toNat ds).flatten) s2 := ev_op ha hb h
/-! ### an owned list of ints: min, index -/
theorem ev_minO (hi : s.s[i]? = some (.res (lstR K ov (ns.map PyData.int)))) (hn : ns ≠ []) : Ev K (tCB (rDn K mmOk minD) (tCons (tVar i) tNil)) s (.int (lmin ns)) s := by
  refine (ev_cb1 hi ⟨by simpa using hn, by rw [intsOf_map]; rfl⟩).to ?_
  show PyData.int (lmin ((intsOf (ns.map PyData.int)).getD [])) = _
  rw [intsOf_map]; rfl
theorem ints_shs {n : Nat} (ns : List Int) : Shs n (ns.map PyData.int) := shs_of fun d h => by
  obtain ⟨x, _, rfl⟩ := List.mem_map.mp h
  exact sh_int
theorem ev_indexO {n : Int} {j : Nat} (hi : s.s[i]? = some (.res (lstR K ov (ns.map PyData.int)))) (he : Ev K te s (.int n) s1) (hi1 : s1.s[i]? = some (.res (lstR K ov' (ns.map PyData.int)))) (hj : ns[j]? = some n) (hf : ∀ m, m < j → ns[m]? ≠ some n) :
    Ev K (tBM K "list" (rIndexD K) (tVar i) (tCons te tNil)) s (.int (j : Nat)) s1 := fun σ H F fp e Q q => by
  obtain ⟨a, vs, h1, _, h4, h5⟩ := e.own hi
  refine ⟨.ref a, h1, .inl ⟨rfl, _, .inl (.inl h4)⟩, he σ H F fp e _ fun v H1 F1 fp1 e1 st1 a1 => ?_⟩
  obtain ⟨a', vs', h1', _, h4', h5'⟩ := e1.own hi1
  rw [h1] at h1'
  cases h1'
  cases a1
  refine ⟨a, .int n, .int n, ns.map PyData.int, j, .int n, rfl, rfl, .lst (.inl (.inl h4')) (h5'.dp e1.ex (flats_of_canLay (ints_shs (n := 0) ns).1)), .int n, (sh_lst (n := 0) (ints_shs ns)).ok, sh_int.ok (n := 0), by rw [List.getElem?_map, hj]; rfl, by simp [PyData.eqv], fun m z hm hz => ?_, q _ H1 F1 fp1 e1 st1 (.int _)⟩
  obtain ⟨c, hc, rfl⟩ := map_at hz
  have : c ≠ n := fun w => hf m hm (by rw [hc, w])
  simpa [PyData.eqv] using this
end
end DL
namespace DL
open PySem PySem.Spec PyProof.Rows L2
/-! ### a sequence walked: a list or a tuple -/
def iSeq (K : PySem.W.Frag) (tl : TE) : TI := fun σ H R => tl σ H fun x H1 => ∃ (k : Bool) (a : Addr) (xs : List V), x = .ref a ∧ SqK k K H1 a xs ∧ R (if k = true then Itl K a else Itt K a) H1
theorem pi_seqU {X : Cx} {tg l : Expr} {tl : TE} (hl : PE X l tl) : PI X tg l (iSeq X.K tl) := by
  refine ⟨fun pins s σ H R I h => thn (hl.run pins s σ H _ I h) fun v s1 ⟨x, H1, I1, r1, k, a, xs, ex, hq, q⟩ => ?_⟩
  subst ex
  cases r1
  have fp : ∀ b ∈ [s1.heap.objs.size], FpOk X pins H1 b := fun b hb => by
    rw [List.mem_singleton.mp hb]
    exact I1.fpOk (Nat.le_refl _) (I1.hok.fresh (Nat.le_refl _))
  have I2 : ∀ o : Obj, Inv X pins σ H1 { s1 with heap := s1.heap.push o } := fun o => I1.kept (t' := s1.toks) fun b o e => Heap.get?_push_of_some _ e
  cases k with
  | true =>
    obtain ⟨its, rv, p, hz⟩ := I1.list (show SqL X.K H1 a xs from hq)
    exact wpAny_pyIter_list p.isList ⟨s1.heap.objs.size, _, _, _, H1, rfl, I2 _, turn_list a _, ⟨_, Heap.get?_push_size _ rfl, rfl, rfl⟩, fp, q⟩
  | false =>
    obtain ⟨its, rv, p, hz⟩ := I1.tuple (show SqT X.K H1 a xs from hq)
    exact wpAny_pyIter_tuple (show s1.heap.IsTuple a its.toArray from p) ⟨s1.heap.objs.size, _, _, _, H1, rfl, I2 _, turn_tuple a _, ⟨_, Heap.get?_push_size _ rfl, rfl, rfl⟩, fp, q⟩
theorem it_seq {K : PySem.W.Frag} {s s1 : S} {tl : TE} {d : D} {ds : List D} (h : Ev K tl s d s1) (hd : seqD d = some ds) : IterD K (iSeq K tl) s ds s1 := fun σ H F fp e R r =>
  h σ H F fp e _ fun v H1 F1 fp1 e1 st1 a1 => by
    obtain ⟨k, a, vs, rfl, hq, hv⟩ := at_seq a1 hd
    refine ⟨k, a, vs, rfl, e1.ex.sqK hq, r _ H1 F1 fp1 e1 st1 fun F' H' i hF hH => ⟨fun d hd => ?_, fun hi => ?_⟩⟩
    · obtain ⟨x, hx, _⟩ := hv.get hd
      have hq' := hH.sqK (hF.sqK hq)
      have fin : ∀ y : V, vs[i]? = some y → ∃ F2, Grow F' H' F2 H' ∧ At K F2 y d := fun y hy => by
        obtain ⟨d', hd', had⟩ := hv.getV hy
        rw [hd] at hd'
        cases hd'
        exact ⟨F', Grow.refl hH, had.ex hF⟩
      cases k with
      | true =>
        refine ⟨⟨vs, x, hq', hx⟩, fun y H2 hy => ?_⟩
        obtain ⟨rfl, hy⟩ := hy
        exact fin y (hy vs hq')
      | false =>
        refine ⟨⟨vs, x, hq', hx⟩, fun y H2 hy => ?_⟩
        obtain ⟨rfl, hy⟩ := hy
        exact fin y (hy vs hq')
    · have hq' := hH.sqK (hF.sqK hq)
      have hl : vs.length ≤ i := by rw [hv.length]; exact Nat.le_of_eq hi.symm
      cases k with
      | true => exact ⟨vs, hq', hl⟩
      | false => exact ⟨vs, hq', hl⟩
end DL
namespace DL
open PySem PySem.Spec PyProof.Rows L2
section
variable {K : PySem.W.Frag} {E : XK} {s s1 s2 : S} {ta tb te : TE} {bs : List Bool} {ds : List D}
theorem ev_allL (h : Ev K te s (.list (bs.map PyData.bool)) s1) : Ev K (tCB (rDn K allOk allD) (tCons te tNil)) s (.bool (bs.all id)) s1 := by
  refine (ev_cb (ea_cons h ea_nil) (by show (boolsOf (bs.map PyData.bool)).isSome = true; rw [boolsOf_map]; rfl)).to ?_
  show PyData.bool (((boolsOf (bs.map PyData.bool)).getD []).all id) = _
  rw [boolsOf_map]; rfl
theorem ev_anyL (h : Ev K te s (.list (bs.map PyData.bool)) s1) : Ev K (tCB (rDn K allOk anyD) (tCons te tNil)) s (.bool (bs.any id)) s1 := by
  refine (ev_cb (ea_cons h ea_nil) (by show (boolsOf (bs.map PyData.bool)).isSome = true; rw [boolsOf_map]; rfl)).to ?_
  show PyData.bool (((boolsOf (bs.map PyData.bool)).getD []).any id) = _
  rw [boolsOf_map]; rfl
/-- a comprehension over data, no condition, nothing changed -/
theorem ev_lcM {wi : TI} {g : TG} {vs : List Nat} (y : D → D) (hw : IterD K wi s ds s1) (hz : ds.length ≤ sizeLine) (hr : NoRes s1 vs)
    (hs : ∀ d, d ∈ ds → ∃ s2, TgV K vs g (s1.wipe vs) d s2 ∧ SLe (s2.wipe vs) (s1.wipe vs) ∧ Ev K te s2 (y d) s2) : Ev K (tLc wi g tYes te vs) s (.list (ds.map y)) s1 := by
  refine (ev_lc (fun _ => true) y hw hz hr fun d hd => ?_).to (by rw [List.filter_eq_self.mpr (fun _ _ => rfl)])
  obtain ⟨s2, h1, h2, h3⟩ := hs d hd
  exact ⟨s2, h1, h2, et_yes, fun _ => h3⟩
end
theorem noRes_nil {s : S} : NoRes s [] := fun i x h => by simp at h
theorem noRes_cons {s : S} {j : Nat} {vs : List Nat} (h : ∀ x, s.s[j]? = some x → x = .unk ∨ ∃ d, x = .dat d) (t : NoRes s vs) : NoRes s (j :: vs) := fun i x hi hx => by
  rcases List.mem_cons.mp hi with rfl | hi
  · exact h x hx
  · exact t i x hi hx
theorem noRes_u {s : S} {j : Nat} {vs : List Nat} (h : s.s[j]? = some .unk) (t : NoRes s vs) : NoRes s (j :: vs) := noRes_cons (fun x hx => .inl (by rw [h] at hx; exact (Option.some.inj hx).symm)) t
theorem noRes_d {s : S} {j : Nat} {d : D} {vs : List Nat} (h : s.s[j]? = some (.dat d)) (t : NoRes s vs) : NoRes s (j :: vs) := noRes_cons (fun x hx => .inr ⟨d, by rw [h] at hx; exact (Option.some.inj hx).symm⟩) t
/-- what comes back behind a comprehension, slot by slot -/
inductive Bk (vs : List Nat) : Nat → List Sl → List Sl → List Sl → Prop
  | nil {i : Nat} : Bk vs i [] [] []
  | keep {i : Nat} {x y : Sl} {l m k : List Sl} (h : i ∉ vs) : Bk vs (i + 1) l m k → Bk vs i (x :: l) (y :: m) (y :: k)
  | unk {i : Nat} {x y : Sl} {l m k : List Sl} : Bk vs (i + 1) l m k → Bk vs i (x :: l) (y :: m) (.unk :: k)
  | own {i : Nat} {d : D} {y : Sl} {l m k : List Sl} (h : i ∈ vs) : Bk vs (i + 1) l m k → Bk vs i (.dat d :: l) (y :: m) (.dat d :: k)
theorem Bk.len {vs : List Nat} : ∀ {i : Nat} {l m k : List Sl}, Bk vs i l m k → k.length = l.length
  | _, _, _, _, .nil => rfl
  | _, _, _, _, .keep _ h => by simp [Bk.len h]
  | _, _, _, _, .unk h => by simp [Bk.len h]
  | _, _, _, _, .own _ h => by simp [Bk.len h]
theorem Bk.at {vs : List Nat} : ∀ {i : Nat} {l m k : List Sl}, Bk vs i l m k → ∀ (j : Nat) (x : Sl), k[j]? = some x → (i + j ∉ vs ∧ m[j]? = some x) ∨ x = .unk ∨ (i + j ∈ vs ∧ l[j]? = some x ∧ ∃ d, x = .dat d)
  | _, _, _, _, .nil, j, x, h => by simp at h
  | _, _, _, _, .keep h1 t, 0, x, h => by simp at h; subst h; exact .inl ⟨by simpa using h1, by simp⟩
  | _, _, _, _, .unk t, 0, x, h => by simp at h; exact .inr (.inl h.symm)
  | _, _, _, _, .own h1 t, 0, x, h => by simp at h; subst h; exact .inr (.inr ⟨by simpa using h1, by simp, _, rfl⟩)
  | i, _, _, _, .keep _ t, j + 1, x, h => by
    have := Bk.at t j x (by simpa using h)
    rw [show i + 1 + j = i + (j + 1) by omega] at this
    simpa using this
  | i, _, _, _, .unk t, j + 1, x, h => by
    have := Bk.at t j x (by simpa using h)
    rw [show i + 1 + j = i + (j + 1) by omega] at this
    simpa using this
  | i, _, _, _, .own _ t, j + 1, x, h => by
    have := Bk.at t j x (by simpa using h)
    rw [show i + 1 + j = i + (j + 1) by omega] at this
    simpa using this
theorem Bk.back {vs : List Nat} {s1 sn s' : S} (h : Bk vs 0 s1.s sn.s s'.s) (hg : s'.g = sn.g) : Back vs s1 sn s' := ⟨h.len, fun i x q => by
  have := h.at i x q
  rw [Nat.zero_add] at this
  exact this, hg⟩
end DL
namespace DL
open PySem PySem.Spec PyProof.Rows L2
section
variable {K : PySem.W.Frag} {E : XK} {s s0 s1 : S} {t : TS} {g : TG} {wi : TI} {ds : List D} {o : Out}
/-- for x in xs: .. where p x decides whether the body goes on or ends the loop -/
theorem run_forAll (p : D → Bool) (hw : IterD K wi s ds s1) (h0 : SLe s1 s0) (hp : ∀ d ∈ ds, p d = false) (hs : ∀ d, d ∈ ds → p d = false → ∃ s2, Tg K g s0 d s2 ∧ Run K E t s2 (.nx s0)) : Run K E (tFor wi g t) s (.nx s0) :=
  run_for (fun _ => s0) hw h0 fun i d hd => hs d (List.mem_of_getElem? hd) (hp d (List.mem_of_getElem? hd))
theorem run_forAny (p : D → Bool) (hw : IterD K wi s ds s1) (h0 : SLe s1 s0) (hp : ∃ d ∈ ds, p d = true) (hs : ∀ d, d ∈ ds → p d = false → ∃ s2, Tg K g s0 d s2 ∧ Run K E t s2 (.nx s0))
    (hr : ∀ d, d ∈ ds → p d = true → ∃ s2 o', Tg K g s0 d s2 ∧ Run K E t s2 o' ∧ o'.ends = true ∧ o = o'.out) : Run K E (tFor wi g t) s o := by
  have hl : ds.findIdx p < ds.length := List.findIdx_lt_length.mpr hp
  refine run_forG (fun _ => s0) (ds.findIdx p) hw h0 (Nat.le_of_lt hl) (fun i d hi hd => ?_) (.inr ?_)
  · have hm := List.mem_of_getElem? hd
    refine hs d hm ?_
    have := List.not_of_lt_findIdx hi
    obtain ⟨hl, he⟩ := List.getElem?_eq_some_iff.mp hd
    rw [he] at this
    simpa using this
  · have hp' : p ds[ds.findIdx p] = true := List.findIdx_getElem
    obtain ⟨s2, o', h1, h2, h3, h4⟩ := hr _ (List.getElem_mem hl) hp'
    exact ⟨_, s2, o', List.getElem?_eq_getElem hl, h1, h2, h3, h4⟩
end
end DL
namespace DL
open PySem PySem.Spec PyProof.Rows L2
section
variable {K : PySem.W.Frag} {s s1 s2 : S} {ta tb te : TE} {ns : List Int} {m n : Int}
theorem ev_lenTI (h : Ev K te s (.tuple (ns.map PyData.int)) s1) : Ev K (tCB (rDn K lenOk lenD) (tCons te tNil)) s (.int ns.length) s1 := (ev_lenT (ea_cons h ea_nil)).to (by rw [List.length_map])
theorem ev_lenLI (h : Ev K te s (.list (ns.map PyData.int)) s1) : Ev K (tCB (rDn K lenOk lenD) (tCons te tNil)) s (.int ns.length) s1 := (ev_lenL (ea_cons h ea_nil)).to (by rw [List.length_map])
theorem it_r1 (h : Ev K te s (.int n) s1) (hn : -(2 ^ 62) ≤ n ∧ n < 2 ^ 62) : IterD K (iRng1 (tCons te tNil)) s (upTo 0 n.toNat) s1 := it_rng1 (ea_cons h ea_nil) hn
theorem it_r2 (h : Ev K ta s (.int m) s1) (h2 : Ev K tb s1 (.int n) s2) (hn : -(2 ^ 62) ≤ m ∧ m < 2 ^ 62 ∧ -(2 ^ 62) ≤ n ∧ n < 2 ^ 62) : IterD K (iRng2 (tCons ta (tCons tb tNil))) s (upTo m (n - m).toNat) s2 := it_rng2 (ea_cons h (ea_cons h2 ea_nil)) hn
end
end DL
namespace DL
open PySem PySem.Spec PyProof.Rows L2
section
variable {K : PySem.W.Frag} {E : XK} {s s1 : S} {x1 x2 x3 x4 : Sl} {ta : TA}
theorem Own.growH {H0 H F : Hp} {fp0 fp : Fp} {P : Addr → Prop} {p : Addr} {o : HO} (w : Own H0 fp0 H F fp P) (hp : H p = Option.none) : Own H0 fp0 (upd H p o) F fp P := ⟨w.nf, w.dj, fun b h => (w.th b h).ex (Ex.new hp), w.new⟩
/-- a, b, c, d = .., by a tuple: what is new may be changed later -/
theorem run_tupX4 {i1 i2 i3 i4 : Nat} (h : EvX K ta s [x1, x2, x3, x4] s1) : Run K E (tAsg (tTup ta) (gTup K 4 (gCons (gName i1) (gCons (gName i2) (gCons (gName i3) (gCons (gName i4) gNil)))))) s (.nx ((((s1.set i1 x1).set i2 x2).set i3 x3).set i4 x4)) := fun σ H F fp e Ed q =>
  h σ H F fp e _ fun vs H' F' fp' P e' st l hx ol => by
    match vs, l with
    | [v1, v2, v3, v4], _ =>
      refine ⟨by show 4 ≤ sizeLine; decide, fun p hp => ?_⟩
      have ex := Ex.new (o := .tup [v1, v2, v3, v4]) hp
      have e2 := e'.growH (o := .tup [v1, v2, v3, v4]) hp
      have st2 := st.trans (Step.growH (F := F') (fp := fp') (o := .tup [v1, v2, v3, v4]) hp)
      have ow : ∀ i, Own H fp (upd H' p (.tup [v1, v2, v3, v4])) F' fp' (P i) := fun i => (ol.own i).growH hp
      have up : ∀ {i : Nat} {x : Sl} {sv : Option (Option V)}, SlOk K F' H' (P i) sv x → SlOk K F' (upd H' p (.tup [v1, v2, v3, v4])) (P i) sv x := fun {i x sv} z => z.mono (Ex.refl F') (fun b hb => ((ol.own i).th b hb).get ex) (ExtKeep.of ex)
      have z1 := up (hx 0 x1 rfl)
      have z2 := up (hx 1 x2 rfl)
      have z3 := up (hx 2 x3 rfl)
      have z4 := up (hx 3 x4 rfl)
      have o1 := ow 0
      have o2 := (ow 1).fps (i := .inl i1) (ol.dj 1 0 · (by decide))
      have o3 := ((ow 2).fps (i := .inl i1) (ol.dj 2 0 · (by decide))).fps (i := .inl i2) (ol.dj 2 1 · (by decide))
      have o4 := (((ow 3).fps (i := .inl i1) (ol.dj 3 0 · (by decide))).fps (i := .inl i2) (ol.dj 3 1 · (by decide))).fps (i := .inl i3) (ol.dj 3 2 · (by decide))
      refine ⟨p, [v1, v2, v3, v4], rfl, .inl (.inl upd_same), rfl, v1, _, rfl, v2, _, rfl, v3, _, rfl, v4, _, rfl, rfl, ?_⟩
      exact q _ _ F' _ ((((e2.setX (i := i1) z1 o1).setX (i := i2) z2 o2).setX (i := i3) z3 o3).setX (i := i4) z4 o4) ((((st2.own o1).own o2).own o3).own o4)
end
end DL
namespace DL
open PySem PySem.Spec PyProof.Rows L2
/-! ### xs * n, a new list -/
def rDl2 (K : PySem.W.Frag) (ok : D → D → Prop) (f : D → D → List D) : R2 := fun x y H Q => ∃ F dx dy, Ex F H ∧ AtC K F H x dx ∧ AtC K F H y dy ∧ ok dx dy ∧ ∀ p vs, H p = none → AtAll K F vs (f dx dy) → Q (.ref p) (upd H p (.lst vs))
def repOk : D → D → Prop
  | .list a, .int k => -(2 ^ 63) ≤ k ∧ k < 2 ^ 63 ∧ a.length * k.toNat ≤ sizeLine
  | _, _ => False
def repL : D → D → List D
  | .list a, .int k => (List.replicate k.toNat a).flatten
  | _, _ => []
theorem op_repL {X : Cx} : OpR X (binaryOp .Mult) (rDl2 X.K repOk repL) := by
  intro pins s σ H x y v u Q I rx ry ⟨F, dx, dy, e, hx, hy, ok, k⟩
  match dx, dy, ok with
  | .list a, .int j, ⟨o1, o2, o3⟩ =>
    obtain ⟨p, vs, rfl, h1, h2⟩ := hx.lst e
    have q2 := hy.int
    subst q2
    exact op_rep pins s σ H _ _ v u Q I rx ry ⟨p, j, vs, rfl, rfl, h1, o1, o2, by rw [h2.length]; exact o3, fun r hr => k r _ hr (h2.flat _)⟩
section
variable {K : PySem.W.Frag} {s s1 s2 : S} {ta tb : TE} {x y : D} {ok : D → D → Prop} {f : D → D → List D}
theorem eo_op2 (ha : Ev K ta s x s1) (hb : Ev K tb s1 y s2) (h : ok x y) : EvO K (tOp (rDl2 K ok f) ta tb) s (lstR K none (f x y)) s2 := fun σ H F fp E Q q =>
  ha σ H F fp E _ fun vx H1 F1 fp1 E1 st1 a1 => hb σ H1 F1 fp1 E1 _ fun vy H2 F2 fp2 E2 st2 a2 =>
    ⟨F2, x, y, E2.ex, .inl (a1.ex st2.ex), .inl a2, h, fun p vs hp av => q _ _ F2 fp2 (fun b => b = p) (E2.growH hp) ((st1.trans st2).trans (Step.growH hp)) ⟨p, vs, rfl, (fun _ z => nomatch z), fun _ => Iff.rfl, upd_same, av⟩ (Own.laid E2 (st1.trans st2) hp)⟩
theorem ev_op2L (ha : Ev K ta s x s1) (hb : Ev K tb s1 y s2) (h : ok x y) : Ev K (tOp (rDl2 K ok f) ta tb) s (.list (f x y)) s2 := fun σ H F fp E Q q =>
  ha σ H F fp E _ fun vx H1 F1 fp1 E1 st1 a1 => hb σ H1 F1 fp1 E1 _ fun vy H2 F2 fp2 E2 st2 a2 =>
    ⟨F2, x, y, E2.ex, .inl (a1.ex st2.ex), .inl a2, h, fun p vs hp av => by
      have g : Grow F2 H2 (upd F2 p (.lst vs)) (upd H2 p (.lst vs)) := Grow.laid E2.ex hp
      exact q _ _ _ fp2 (E2.grow g) ((st1.trans st2).trans (E2.growS g)) (.lst upd_same (av.ex g.f))⟩
theorem eo_rep0 {n : Int} {z : D} (hb : Ev K tb s (.int n) s1) (hz : Ev K ta s z s) (h0 : 0 ≤ n) (h1 : n ≤ 1000000) : EvO K (tOp (rDl2 K repOk repL) (tLst (tCons ta tNil)) tb) s (lstR K none (List.replicate n.toNat z)) s1 := by
  have := eo_op2 (ok := repOk) (f := repL) (ev_lst (ea_cons hz ea_nil) (le_size (by simp))) hb ⟨by omega, by omega, le_size (by simp; omega)⟩
  have e : repL (.list [z]) (.int n) = List.replicate n.toNat z := by
    show (List.replicate n.toNat [z]).flatten = _
    simp
  rw [e] at this
  exact this
end
end DL
namespace DL
open PySem PySem.Spec PyProof.Rows L2
section
variable {K : PySem.W.Frag} {s s1 s2 : S} {ta tb : TE} {b : Bool}
/-- a and b, a true, b in its own state -/
theorem ev_andT (h1 : Ev K ta s (.bool true) s1) (h2 : Ev K tb s1 (.bool b) s2) : Ev K (tAndV ta tb) s (.bool b) s2 := fun σ H F fp E Q q =>
  h1 σ H F fp E _ fun v H1 F1 fp1 E1 st1 a1 => by
    cases a1
    refine ⟨true, rfl, ?_⟩
    show tb σ H1 Q
    exact h2 σ H1 F1 fp1 E1 Q fun v H2 F2 fp2 E2 st2 a2 => q v H2 F2 fp2 E2 (st1.trans st2) a2
end
end DL

/-! owned things at one address; dicts -/
namespace DL
open PySem PySem.Spec PyProof.Rows L2
def NoExt (o : HO) : Prop := ∀ φ, o ≠ .ext φ
/-- what an object is, leaning on the frozen part -/
structure Cell where
  c : Hp → HO → Prop
  mono : ∀ {F F' : Hp} {o : HO}, Ex F F' → c F o → c F' o
  nt : ∀ {F : Hp} {o : HO}, c F o → NoTbl o ∧ NoExt o
def cellR (ov : Option V) (x : Cell) : Rs where
  ok := fun F H P sv => ∃ a o, sv = some (some (.ref a)) ∧ (∀ v, ov = some v → v = .ref a) ∧ (∀ b, P b ↔ b = a) ∧ H a = some o ∧ x.c F o
  mono := fun ⟨a, o, h1, h2, h3, h4, h5⟩ e k _ => ⟨a, o, h1, h2, h3, by rw [k a ((h3 a).mpr rfl)]; exact h4, x.mono e h5⟩
theorem pin_cell {v : V} {x : Cell} : Pin (cellR (some v) x) v := fun ⟨a, o, h1, h2, h3, h4, h5⟩ => by
  have := h2 v rfl
  subst this
  exact ⟨a, o, rfl, h2, h3, h4, h5⟩
section
variable {K : PySem.W.Frag} {E : XK} {s s1 s2 s3 s' : S} {te ta tb ti : TE} {t : TS} {d x y : D} {o : Out} {σ : L2.St} {H F : Hp} {fp : Fp}
theorem EnvW.cell {i : Nat} {ov : Option V} {x : Cell} (E : EnvW K σ s H F fp) (h : s.s[i]? = some (.res (cellR ov x))) : ∃ a o, σ[i]? = some (some (.ref a)) ∧ (∀ b, fp (.inl i) b ↔ b = a) ∧ H a = some o ∧ x.c F o := by
  obtain ⟨a, o, h1, _, h3, h4, h5⟩ := E.sl i _ h
  exact ⟨a, o, h1, h3, h4, h5⟩
theorem mut_extO {p : Addr} {o u : HO} (h : H p = some u) (n : NoExt u) : ExtKeep H (upd H p o) := fun b φ q => by
  rw [upd_ne fun z => by rw [z, h] at q; cases q; exact n φ rfl]; exact q
theorem tabs_mutO {T : List (Addr × Str)} {p : Addr} {o u : HO} (t : LamX.Tabs T H) (h : H p = some u) (n : NoTbl u) (n2 : NoExt u) : LamX.Tabs T (upd H p o) := fun x hx => by
  obtain ⟨ps, h1, h2, h3⟩ := t x hx
  refine ⟨ps, by rw [upd_ne fun z => by rw [z, h] at h1; cases h1; exact n ps rfl]; exact h1, h2, fun pos cv hc => ?_⟩
  obtain ⟨c, e1, e2⟩ := h3 pos cv hc
  exact ⟨c, e1, mut_extO h n2 _ _ e2⟩
theorem EnvW.putC {i : Nat} {ov : Option V} {x x' : Cell} {a : Addr} {o' : HO} (E : EnvW K σ s H F fp) (hi : s.s[i]? = some (.res (cellR ov x))) (hσ : σ[i]? = some (some (.ref a))) (hv : x'.c F o') :
    EnvW K σ (s.set i (.res (cellR ov x'))) (upd H a o') F fp ∧ Step H F fp (upd H a o') F fp := by
  obtain ⟨a', o, h1, h2, h3, h4, h5⟩ := E.sl i _ hi
  rw [hσ] at h1
  cases h1
  obtain ⟨n1, n2⟩ := x.nt h5
  have hfa : fp (.inl i) a := (h3 a).mpr rfl
  have hil : i < s.s.length := (List.getElem?_eq_some_iff.mp hi).1
  refine ⟨⟨fun b u q => ?_, by simp [S.set, E.len], fun j y hj => ?_, tabs_mutO E.tb h4 n1 n2, E.dj, E.nf, fun j b h => ?_, E.nt⟩, ⟨Ex.refl F, fun _ h _ _ => h, fun b o h1 _ h2 => ?_, fun j b h => .inl ⟨j, h⟩, mut_extO h4 n2⟩⟩
  · rw [upd_ne (ne_of_none q (E.nf _ a hfa))]; exact E.ex b u q
  · by_cases z : j = i
    · subst z
      have e1 : (s.s.set j (.res (cellR ov x')))[j]? = some (.res (cellR ov x')) := List.getElem?_set_self hil
      rw [show (s.set j (.res (cellR ov x'))).s = s.s.set j (.res (cellR ov x')) from rfl, e1] at hj
      cases hj
      exact ⟨a, o', hσ, h2, h3, upd_same, hv⟩
    · have e1 : (s.s.set i (.res (cellR ov x')))[j]? = s.s[j]? := List.getElem?_set_ne (Ne.symm z)
      rw [show (s.set i (.res (cellR ov x'))).s = s.s.set i (.res (cellR ov x')) from rfl, e1] at hj
      exact (E.sl j y hj).mono (Ex.refl F) (fun b hb => upd_ne fun q => E.dj (.inl j) (.inl i) b (by intro w; cases w; exact z rfl) hb (q ▸ hfa)) (mut_extO h4 n2)
  · by_cases z : b = a
    · subst z; exact ⟨_, upd_same, (x'.nt hv).1⟩
    · obtain ⟨o, q, n⟩ := E.th j b h; exact ⟨o, by rw [upd_ne z]; exact q, n⟩
  · have : b ≠ a := fun q => h2 (.inl i) (q ▸ hfa)
    rw [upd_ne this]; exact h1
/-- a new owned thing -/
theorem cell_new {H0 F0 : Hp} {fp0 : Fp} {x : Cell} {p : Addr} {o : HO} {Q : VK} {r : Rs} (hr : r = cellR none x) (e : EnvW K σ s H F fp) (st : Step H0 F0 fp0 H F fp) (hp : H p = none) (hc : x.c F o)
    (q : ∀ v H' F' fp' P, EnvW K σ s H' F' fp' → Step H0 F0 fp0 H' F' fp' → r.ok F' H' P (some (some v)) → Own H0 fp0 H' F' fp' P → Q v H') : Q (.ref p) (upd H p o) := by
  subst hr
  exact q _ _ F fp (fun b => b = p) (e.growH hp) (st.trans (Step.growH hp)) ⟨p, o, rfl, (fun _ z => nomatch z), fun _ => Iff.rfl, upd_same, hc⟩ (Own.laid (K := K) e st hp (x.nt hc).1)
/-- it is given up: from now on it is data -/
theorem EnvW.freezeC {i : Nat} {ov : Option V} {x : Cell} {d : D} (e : EnvW K σ s H F fp) (hi : s.s[i]? = some (.res (cellR ov x))) (hd : ∀ {F : Hp} {a : Addr} {o : HO}, x.c F o → F a = some o → At K F (.ref a) d) : ∃ F', EnvW K σ (s.set i (.dat d)) H F' (fpSet fp (.inl i) noP) ∧ Step H F fp H F' (fpSet fp (.inl i) noP) := by
  obtain ⟨a, o, h1, h2, h3, h4⟩ := e.cell hi
  obtain ⟨n1, n2⟩ := x.nt h4
  have hfa : fp (.inl i) a := (h2 a).mpr rfl
  have hFa : F a = none := e.nf _ a hfa
  have eF : Ex F (upd F a o) := Ex.new hFa
  have hil : i < s.s.length := (List.getElem?_eq_some_iff.mp hi).1
  have nfa : ∀ j b, j ≠ .inl i → fp j b → b ≠ a := fun j b hj hb z => e.dj j (.inl i) b hj hb (z ▸ hfa)
  refine ⟨upd F a o, ⟨fun b u q => ?_, by simp [S.set, e.len], fun j y hj => ?_, e.tb, fun j k b hjk h1 h2 => ?_, fun j b hb => ?_, fun j b hb => ?_, fun b o q => ?_⟩, ⟨eF, fun b h1 h2 h3 => ?_, fun b o h1 _ _ => h1, fun j b hb => ?_, fun _ _ h => h⟩⟩
  · by_cases z : b = a
    · subst z; rw [upd_same] at q; cases q; exact h3
    · rw [upd_ne z] at q; exact e.ex b u q
  · by_cases z : j = i
    · subst z
      have e1 : (s.s.set j (.dat d))[j]? = some (.dat d) := List.getElem?_set_self hil
      rw [show (s.set j (.dat d)).s = s.s.set j (.dat d) from rfl, e1] at hj
      cases hj
      exact ⟨.ref a, h1, hd (x.mono eF h4) upd_same⟩
    · have e1 : (s.s.set i (.dat d))[j]? = s.s[j]? := List.getElem?_set_ne (Ne.symm z)
      rw [show (s.set i (.dat d)).s = s.s.set i (.dat d) from rfl, e1] at hj
      rw [fpSet_ne (by intro q; cases q; exact z rfl)]
      exact (e.sl j y hj).mono eF (fun _ _ => rfl) (fun _ _ h => h)
  · by_cases z : j = .inl i
    · subst z; rw [fpSet_same] at h1; exact h1
    · rw [fpSet_ne z] at h1
      by_cases y : k = .inl i
      · subst y; rw [fpSet_same] at h2; exact h2
      · rw [fpSet_ne y] at h2; exact e.dj j k b hjk h1 h2
  · by_cases z : j = .inl i
    · subst z; rw [fpSet_same] at hb; exact hb.elim
    · rw [fpSet_ne z] at hb; rw [upd_ne (nfa j b z hb)]; exact e.nf j b hb
  · by_cases z : j = .inl i
    · subst z; rw [fpSet_same] at hb; exact hb.elim
    · rw [fpSet_ne z] at hb; exact e.th j b hb
  · by_cases z : b = a
    · subst z; rw [upd_same] at q; cases q; exact n1
    · rw [upd_ne z] at q; exact e.nt b o q
  · have : b ≠ a := fun z => h3 (.inl i) (z ▸ hfa)
    rw [upd_ne this]; exact h1
  · by_cases z : j = .inl i
    · subst z; rw [fpSet_same] at hb; exact hb.elim
    · rw [fpSet_ne z] at hb; exact .inl ⟨j, hb⟩
/-! ### dicts whose keys are ints and texts -/
def keyIs (k : Key) : D → Bool
  | .int i => match k with
    | .inl j => decide (i = j)
    | _ => false
  | .str x => match k with
    | .inr y => decide (x = y)
    | _ => false
  | _ => false
theorem keyIs_key {k j : Key} : keyIs k (keyD j) = decide (j = k) := by
  cases j <;> cases k <;> simp [keyIs, keyD]
def dlook : List (D × D) → Key → Option D
  | [], _ => none
  | (a, d) :: r, k => if keyIs k a = true then some d else dlook r k
def dput (ds : List (D × D)) (k : Key) (d : D) : List (D × D) := if (dlook ds k).isSome = true then ds.map (fun p => if keyIs k p.1 = true then (p.1, d) else p) else ds ++ [(keyD k, d)]
theorem AtKV.look {k : Key} : ∀ {kvs : List (Key × V)} {ds : List (D × D)}, AtKV K F kvs ds → (∀ d, dlook ds k = some d → ∃ v, valV kvs k = some v ∧ At K F v d) ∧ (dlook ds k = none → valV kvs k = none)
  | _, _, .nil => ⟨fun d h => (nomatch h), fun _ => rfl⟩
  | _, _, .cons (k := j) (kvs := kvs) h t => by
    obtain ⟨h1, h2⟩ := AtKV.look (k := k) t
    by_cases q : j = k
    · subst q
      refine ⟨fun d hd => ?_, fun hd => ?_⟩
      · unfold dlook at hd
        rw [keyIs_key, if_pos (by simp)] at hd
        cases hd
        exact ⟨_, valV_pos rfl, h⟩
      · unfold dlook at hd
        rw [keyIs_key, if_pos (by simp)] at hd
        cases hd
    · refine ⟨fun d hd => ?_, fun hd => ?_⟩
      · unfold dlook at hd
        rw [keyIs_key, if_neg (by simpa using q)] at hd
        obtain ⟨v, e1, e2⟩ := h1 d hd
        exact ⟨v, by rw [valV_neg q]; exact e1, e2⟩
      · unfold dlook at hd
        rw [keyIs_key, if_neg (by simpa using q)] at hd
        rw [valV_neg q]; exact h2 hd
theorem AtKV.app : ∀ {kvs js : List (Key × V)} {ds es : List (D × D)}, AtKV K F kvs ds → AtKV K F js es → AtKV K F (kvs ++ js) (ds ++ es)
  | _, _, _, _, .nil, s => s
  | _, _, _, _, .cons h t, s => .cons h (AtKV.app t s)
theorem AtKV.upd {k : Key} {v : V} {d : D} (h : At K F v d) : ∀ {kvs : List (Key × V)} {ds : List (D × D)}, AtKV K F kvs ds → AtKV K F (kvs.map fun kv => if kv.1 = k then (kv.1, v) else kv) (ds.map fun p => if keyIs k p.1 = true then (p.1, d) else p)
  | _, _, .nil => .nil
  | _, _, .cons (k := j) g t => by
    simp only [List.map_cons]
    rw [keyIs_key]
    by_cases q : j = k
    · subst q
      simp only [if_pos, decide_true]
      exact .cons h (AtKV.upd h t)
    · simp only [q, if_false, decide_false, Bool.false_eq_true]
      exact .cons g (AtKV.upd h t)
theorem AtKV.put {k : Key} {v : V} {d : D} (h : At K F v d) {kvs : List (Key × V)} {ds : List (D × D)} (t : AtKV K F kvs ds) : AtKV K F (putK kvs k v) (dput ds k d) := by
  obtain ⟨h1, h2⟩ := t.look (k := k)
  unfold putK dput
  rw [valV_any]
  cases q : dlook ds k with
  | none =>
    rw [h2 q]
    exact t.app (.cons h .nil)
  | some e =>
    obtain ⟨w, e1, _⟩ := h1 e q
    rw [e1]
    exact t.upd h
theorem AtKV.len : ∀ {kvs : List (Key × V)} {ds : List (D × D)}, AtKV K F kvs ds → kvs.length = ds.length
  | _, _, .nil => rfl
  | _, _, .cons _ t => by simp [AtKV.len t]
def dctC (K : PySem.W.Frag) (ds : List (D × D)) : Cell where
  c := fun F o => ∃ kvs, o = .dK kvs ∧ AtKV K F kvs ds
  mono := fun e ⟨kvs, h1, h2⟩ => ⟨kvs, h1, h2.ex e⟩
  nt := fun ⟨kvs, h1, _⟩ => by subst h1; exact ⟨(fun _ z => by cases z), (fun _ z => by cases z)⟩
abbrev dctR (K : PySem.W.Frag) (ov : Option V) (ds : List (D × D)) : Rs := cellR ov (dctC K ds)
/-- {k: v, ..} -/
inductive AtPs (K : PySem.W.Frag) (F : Hp) : List (V × V) → List (Key × D) → Prop
  | nil : AtPs K F [] []
  | cons {k : Key} {v : V} {vs : List (V × V)} {d : D} {ds : List (Key × D)} : At K F v d → AtPs K F vs ds → AtPs K F ((kV k, v) :: vs) ((k, d) :: ds)
def EvPs (K : PySem.W.Frag) (trs : List (TE × TE)) (s : S) (ps : List (Key × D)) (s' : S) : Prop := ∀ σ H F fp, EnvW K σ s H F fp → ∀ Q : List (V × V) → Hp → Prop, (∀ vs H' F' fp', EnvW K σ s' H' F' fp' → Step H F fp H' F' fp' → AtPs K F' vs ps → Q vs H') → tPairs trs σ H Q
theorem ep_nil : EvPs K [] s [] s := fun σ H F fp e Q q => q _ H F fp e (Step.refl _ _ _) .nil
theorem at_key {k : Key} {v : V} (h : At K F v (keyD k)) : v = kV k := by
  cases k with
  | inl i => cases h; rfl
  | inr x => cases h; rfl
theorem ep_cons {k : Key} {trs : List (TE × TE)} {ps : List (Key × D)} (h1 : Ev K ta s (keyD k) s1) (h2 : Ev K tb s1 d s2) (hr : EvPs K trs s2 ps s3) : EvPs K ((ta, tb) :: trs) s ((k, d) :: ps) s3 := fun σ H F fp e Q q =>
  h1 σ H F fp e _ fun v H1 F1 fp1 e1 st1 a1 => h2 σ H1 F1 fp1 e1 _ fun w H2 F2 fp2 e2 st2 a2 => hr σ H2 F2 fp2 e2 _ fun vs H3 F3 fp3 e3 st3 a3 => by
    rw [at_key a1]
    exact q _ H3 F3 fp3 e3 ((st1.trans st2).trans st3) (.cons (a2.ex st3.ex) a3)
def dmerge (ds : List (D × D)) (ps : List (Key × D)) : List (D × D) := ps.foldl (fun acc p => dput acc p.1 p.2) ds
theorem AtPs.un : ∀ {vs : List (V × V)} {ps : List (Key × D)}, AtPs K F vs ps → ∃ kvs : List (Key × V), vs = kvs.map (fun kv => (kV kv.1, kv.2)) ∧ kvs.length = ps.length ∧ ∀ {js : List (Key × V)} {ds : List (D × D)}, AtKV K F js ds → AtKV K F (mergeK js kvs) (dmerge ds ps)
  | _, _, .nil => ⟨[], rfl, rfl, fun h => h⟩
  | _, _, .cons (k := k) (v := v) h t => by
    obtain ⟨kvs, h1, h2, h3⟩ := t.un
    refine ⟨(k, v) :: kvs, by rw [h1]; rfl, by simp [h2], fun q => ?_⟩
    exact h3 (q.put h)
theorem eo_disp {trs : List (TE × TE)} {ps : List (Key × D)} (h : EvPs K trs s ps s1) (hl : ps.length ≤ 15) : EvO K (tDisp trs) s (dctR K none (dmerge [] ps)) s1 := fun σ H F fp e Q q p hp => by
  have e0 := e.growH (o := .dK []) hp
  have st0 : Step H F fp (upd H p (.dK [])) F fp := Step.growH hp
  refine h σ _ F fp e0 _ fun vs H1 F1 fp1 e1 st1 a1 => ?_
  have hpF : F p = none := e.ex.un hp
  have hfp : ∀ i, ¬ fp i p := fun i hi => (e.th i p hi).ne hp rfl
  have lv : Live (upd H p (.dK [])) p := ⟨_, upd_same, by intro ps z; cases z⟩
  have hp1 : H1 p = some (.dK []) := st1.keep p _ upd_same (by intro ps z; cases z) hfp
  have hF1 : F1 p = none := st1.new p hpF lv hfp
  have nf1 : ∀ i, ¬ fp1 i p := fun i hi => by
    rcases st1.fpn i p hi with ⟨j, hj⟩ | z
    · exact hfp j hj
    · exact z lv
  obtain ⟨kvs, k1, k2, k3⟩ := a1.un
  refine ⟨hp1, kvs, k1, by omega, ?_⟩
  have e2 : EnvW K σ s1 (upd H1 p (.dK (mergeK [] kvs))) F1 fp1 := by
    refine ⟨fun b u z => ?_, e1.len, fun i x hx => ?_, tabs_mutO e1.tb hp1 (by intro ps z; cases z) (by intro ps z; cases z), e1.dj, e1.nf, fun i b hb => ?_, e1.nt⟩
    · rw [upd_ne (ne_of_none z hF1)]; exact e1.ex b u z
    · exact (e1.sl i x hx).mono (Ex.refl F1) (fun b hb => upd_ne fun z => nf1 _ (z ▸ hb)) (mut_extO hp1 (by intro ps z; cases z))
    · obtain ⟨o, w, n⟩ := e1.th i b hb
      exact ⟨o, by rw [upd_ne fun z => by subst z; exact nf1 _ hb]; exact w, n⟩
  have st2 : Step H F fp (upd H1 p (.dK (mergeK [] kvs))) F1 fp1 := by
    have st := st0.trans st1
    refine ⟨st.ex, st.new, fun b u h1 h2 h3 => ?_, st.fpn, fun b φ h1 => ?_⟩
    · rw [upd_ne (ne_of_none h1 hp)]; exact st.keep b u h1 h2 h3
    · rw [upd_ne (ne_of_none h1 hp)]; exact st.ext b φ h1
  refine q _ _ F1 fp1 (fun b => b = p) e2 st2 ⟨p, _, rfl, (fun _ z => nomatch z), fun _ => Iff.rfl, upd_same, _, rfl, k3 .nil⟩ ⟨fun b hb => by subst hb; exact hF1, fun b i hb hi => by subst hb; exact nf1 i hi, fun b hb => by subst hb; exact ⟨_, upd_same, by intro ps z; cases z⟩, fun b hb => ?_⟩
  subst hb
  exact .inr fun l => l.ne hp rfl
theorem ev_dispD {trs : List (TE × TE)} {ps : List (Key × D)} (h : EvPs K trs s ps s1) (hl : ps.length ≤ 15) : EvO K (tDisp trs) s (dctR K none (dmerge [] ps)) s1 := eo_disp h hl
/-- d[k], d data -/
theorem ev_dget {ds : List (D × D)} {k : Key} (ha : Ev K ta s (.dict ds) s1) (hb : Ev K tb s1 (keyD k) s2) (h : dlook ds k = some d) : Ev K (tDGet ta tb) s d s2 := fun σ H F fp e Q q =>
  ha σ H F fp e _ fun v H1 F1 fp1 e1 st1 a1 => hb σ H1 F1 fp1 e1 _ fun w H2 F2 fp2 e2 st2 a2 => by
    rw [at_key a2]
    cases a1 with
    | dic h1 h2 =>
      obtain ⟨u, w1, w2⟩ := h2.look.1 d h
      exact ⟨_, u, rfl, .inl ⟨_, k, .inl (e2.ex _ _ (st2.ex _ _ h1)), rfl, w1.symm⟩, q u H2 F2 fp2 e2 (st1.trans st2) (w2.ex st2.ex)⟩
    | scr h1 => cases k <;> cases h
    | obj h1 h3 h2 => cases k <;> cases h
    | zic h1 h2 => cases k <;> cases h
/-- d[k], d owned -/
theorem ev_dgetO {i : Nat} {ov ov' : Option V} {ds ds' : List (D × D)} {k : Key} (hi : s.s[i]? = some (.res (dctR K ov ds))) (hb : Ev K tb s (keyD k) s2) (hi2 : s2.s[i]? = some (.res (dctR K ov' ds'))) (h : dlook ds' k = some d) : Ev K (tDGet (tVar i) tb) s d s2 := fun σ H F fp e Q q => by
  obtain ⟨a, o, h1, _, _, _⟩ := e.cell hi
  refine ⟨.ref a, h1, hb σ H F fp e _ fun w H2 F2 fp2 e2 st2 a2 => ?_⟩
  rw [at_key a2]
  obtain ⟨a', o', h1', _, h4, kvs, h5, h6⟩ := e2.cell hi2
  rw [h1] at h1'
  cases h1'
  subst h5
  obtain ⟨u, w1, w2⟩ := h6.look.1 d h
  exact ⟨_, u, rfl, .inl ⟨_, k, .inl h4, rfl, w1.symm⟩, q u H2 F2 fp2 e2 st2 w2⟩
/-- d[k] = e -/
theorem run_putD {i : Nat} {ov ov' : Option V} {ds ds' : List (D × D)} {k : Key} (h : Ev K te s d s1) (hi : s1.s[i]? = some (.res (dctR K ov ds))) (hk : Ev K ti s1 (keyD k) s2) (hi2 : s2.s[i]? = some (.res (dctR K ov' ds'))) (hz : ds'.length < sizeLine) :
    Run K E (tAsg te (gSub (tVar i) ti rSetD)) s (.nx (s2.set i (.res (dctR K ov' (dput ds' k d))))) := fun σ H F fp e Ed q =>
  h σ H F fp e _ fun v H1 F1 fp1 e1 st1 a1 => by
    obtain ⟨a, o, h1, _⟩ := e1.cell hi
    refine ⟨.ref a, h1, hk σ H1 F1 fp1 e1 _ fun w H2 F2 fp2 e2 st2 a2 => ?_⟩
    rw [at_key a2]
    obtain ⟨a', o', h1', _, h4, kvs, h5, h6⟩ := e2.cell hi2
    rw [h1] at h1'
    cases h1'
    subst h5
    refine ⟨a, _, rfl, .inl ⟨kvs, k, h4, rfl, by rw [h6.len]; exact hz, rfl⟩, ?_⟩
    obtain ⟨e3, st3⟩ := e2.putC (x' := dctC K (dput ds' k d)) hi2 h1 ⟨_, rfl, h6.put (a1.ex st2.ex)⟩
    exact q σ _ F2 fp2 e3 ((st1.trans st2).trans st3)
theorem run_frzD {i : Nat} {ov : Option V} {ds : List (D × D)} (hi : s.s[i]? = some (.res (dctR K ov ds))) (h : Run K E t (s.set i (.dat (.dict ds))) o) : Run K E t s o := fun σ H F fp e Ed q => by
  obtain ⟨F', e', st⟩ := e.freezeC (d := .dict ds) hi fun {F a o} ⟨kvs, h1, h2⟩ hF => by subst h1; exact .dic hF h2
  exact h σ H F' _ e' Ed (q.step st)
/-- a new thing that nobody changes is data -/
theorem ev_ofO {x : Cell} (h : EvO K te s (cellR none x) s1) (hd : ∀ {F : Hp} {a : Addr} {o : HO}, x.c F o → F a = some o → At K F (.ref a) d) : Ev K te s d s1 := fun σ H F fp e Q q =>
  h σ H F fp e _ fun v H1 F1 fp1 P e1 st1 r w => by
    obtain ⟨a, o, h1, h2, h3, h4, h5⟩ := r
    cases h1
    obtain ⟨n1, n2⟩ := x.nt h5
    have pa : P a := (h3 a).mpr rfl
    have hFa : F1 a = none := w.nf a pa
    have eF : Ex F1 (upd F1 a o) := Ex.new hFa
    have nfa : ∀ i, ¬ fp1 i a := fun i hi => w.dj a i pa hi
    refine q (.ref a) H1 (upd F1 a o) fp1 ⟨fun b u z => ?_, e1.len, fun i y hy => ?_, e1.tb, e1.dj, fun i b hb => ?_, e1.th, fun b u z => ?_⟩ ⟨st1.ex.trans eF, fun b g1 g2 g3 => ?_, st1.keep, st1.fpn, st1.ext⟩ (hd (x.mono eF h5) upd_same)
    · by_cases c : b = a
      · subst c; rw [upd_same] at z; cases z; exact h4
      · rw [upd_ne c] at z; exact e1.ex b u z
    · exact (e1.sl i y hy).mono eF (fun _ _ => rfl) (fun _ _ h => h)
    · rw [upd_ne fun c => by subst c; exact nfa _ hb]; exact e1.nf i b hb
    · by_cases c : b = a
      · subst c; rw [upd_same] at z; cases z; exact n1
      · rw [upd_ne c] at z; exact e1.nt b u z
    · have : b ≠ a := fun c => by
        subst c
        rcases w.new b pa with ⟨j, hj⟩ | qq
        · exact g3 j hj
        · exact qq g2
      rw [upd_ne this]; exact st1.new b g1 g2 g3
theorem ev_dictO {ds : List (D × D)} (h : EvO K te s (dctR K none ds) s1) : Ev K te s (.dict ds) s1 := ev_ofO h fun {F a o} ⟨kvs, h1, h2⟩ hF => by subst h1; exact .dic hF h2
end
end DL

namespace DL
open PySem PySem.Spec PyProof.Rows L2
section
variable {K : PySem.W.Frag} {E : XK} {s s1 s2 s3 s' : S} {te ta tb tc ti : TE} {t : TS} {d x y : D} {o : Out} {σ : L2.St} {H F : Hp} {fp : Fp}
/-- the ints lo, lo + c, .. -/
def upBy (lo c : Int) (n : Nat) : List D := (List.range n).map fun i => .int (lo + (i : Nat) * c)
theorem upBy_get {lo c : Int} {n i : Nat} {d : D} (h : (upBy lo c n)[i]? = some d) : i < n ∧ d = .int (lo + (i : Nat) * c) := by
  unfold upBy at h
  rw [List.getElem?_map] at h
  obtain ⟨j, h1, h2⟩ := Option.map_eq_some_iff.mp h
  obtain ⟨h3, h4⟩ := List.getElem?_eq_some_iff.mp h1
  rw [List.getElem_range] at h4
  subst h4
  exact ⟨by simpa using h3, h2.symm⟩
theorem upBy_len {lo c : Int} {n : Nat} : (upBy lo c n).length = n := by simp [upBy]
theorem isIt_rngC {F : Hp} {lo c : Int} {n : Nat} : IsIt K (Itc lo c n) F (upBy lo c n) := fun F' H' i hF hH => ⟨fun d hd => by
  obtain ⟨h1, rfl⟩ := upBy_get hd
  refine ⟨h1, fun x H2 hy => ?_⟩
  obtain ⟨rfl, rfl⟩ := hy
  exact ⟨F', Grow.refl hH, .int _⟩, fun h => by rw [upBy_len] at h; exact Nat.le_of_eq h.symm⟩
theorem it_rng3 {i j c : Int} {n : Nat} (h1 : Ev K ta s (.int i) s1) (h2 : Ev K tb s1 (.int j) s2) (h3 : Ev K tc s2 (.int c) s3) (hr : RgC i j c n) : IterD K (iRng3 (tCons ta (tCons tb (tCons tc tNil)))) s (upBy i c n) s3 := fun σ H F fp e R r =>
  ea_cons h1 (ea_cons h2 (ea_cons h3 ea_nil)) σ H F fp e _ fun vs H1 F1 fp1 e1 st1 a1 => by
    cases a1 with
    | cons x y => cases x; cases y with
      | cons x y => cases x; cases y with
        | cons x y => cases x; cases y; exact ⟨i, j, c, n, rfl, hr, r _ H1 F1 fp1 e1 st1 isIt_rngC⟩
/-- a step up that meets the end -/
theorem rgC_up {i c : Int} {n : Nat} (hc : 0 < c) (hc2 : c < 1000000) (h0 : -1000000000 ≤ i) (h1 : i ≤ 1000000000) (hn : (n : Int) * c ≤ 1000000000) : RgC i (i + n * c) c n := by
  have hnn : 0 ≤ (n : Int) * c := Int.mul_nonneg (by omega) (by omega)
  have hs : Builtin.Range.rangeSize i (i + n * c) c = n := by
    unfold Builtin.Range.rangeSize
    rw [if_pos hc]
    by_cases z : n = 0
    · subst z
      rw [if_neg (by simp)]; rfl
    · have h2 : c ≤ (n : Int) * c := by
        have : (1 : Int) * c ≤ (n : Int) * c := Int.mul_le_mul_of_nonneg_right (by omega) (by omega)
        omega
      rw [if_pos (by omega)]
      have e : (i + (n : Int) * c - i - 1) = (c - 1) + ((n : Int) - 1) * c := by rw [Int.sub_mul]; omega
      rw [e, Int.add_mul_ediv_right _ _ (by omega), Int.ediv_eq_zero_of_lt (by omega) (by omega)]
      omega
  have hn3 : (n : Int) ≤ 1000000000 := by
    have : (n : Int) * 1 ≤ (n : Int) * c := Int.mul_le_mul_of_nonneg_left (by omega) (by omega)
    omega
  refine ⟨by omega, by omega, ?_, hs⟩
  unfold Builtin.Range.small
  rw [hs]
  simp [Builtin.Range.rangeFitsLong, hc]
  omega
/-- d["k"] -/
theorem ev_dgetS {ds : List (D × D)} {k : Str} (ha : Ev K ta s (.dict ds) s1) (h : dlook ds (.inr k) = some d) : Ev K (tDGet ta (tC (.str k))) s d s1 := ev_dget (k := .inr k) ha ev_str h
theorem run_putDS {i : Nat} {ov : Option V} {ds : List (D × D)} {k : Str} (h : Ev K te s d s1) (hi : s1.s[i]? = some (.res (dctR K ov ds))) (hz : ds.length < sizeLine) :
    Run K E (tAsg te (gSub (tVar i) (tC (.str k)) rSetD)) s (.nx (s1.set i (.res (dctR K ov (dput ds (.inr k) d))))) := run_putD (k := .inr k) h hi ev_str hi hz
theorem ep_consS {k : Str} {trs : List (TE × TE)} {ps : List (Key × D)} (h2 : Ev K tb s d s2) (hr : EvPs K trs s2 ps s3) : EvPs K ((tC (.str k), tb) :: trs) s ((.inr k, d) :: ps) s3 := ep_cons (k := .inr k) ev_str h2 hr
end
end DL

namespace DL
open PySem PySem.Spec PyProof.Rows L2
section
variable {K : PySem.W.Frag} {E : XK} {s s1 s2 s3 s' : S} {te ta tb tc ti : TE} {t u : TS} {tt : TT} {d x y : D} {o : Out} {σ : L2.St} {H F H1 F1 H' F' : Hp} {fp fp1 fpc fpc' : Fp}
/-- f(xs, ..), xs an owned list; what comes is new -/
theorem eo_callL {R : FR} {tr : TA} {ds : List D} {i : Nat} {ov ov' : Option V} {es es1 es2 : List D} {r : Rs} (hi : s.s[i]? = some (.res (lstR K ov es))) (ha : EvA K tr s ds s1) (hi1 : s1.s[i]? = some (.res (lstR K ov' es1)))
    (hR : ∀ v, R ⟨.res (lstR K (some v) es1) :: ds.map .dat, s1.g⟩ (.ro r ⟨.res (lstR K (some v) es2) :: ds.map .dat, s1.g⟩)) : EvO K (tCall (spF K R) [] E (tCons (tVar i) tr)) s r (s1.set i (.res (lstR K ov' es2))) := fun σ H F fp e Q q => by
  refine callL e hi ha hi1 hR fun a vs H1 F1 fp1 e1 st1 hσ hov => ?_
  have hfa : fp1 (.inl i) a := by
    obtain ⟨a', _, h1, h2, _⟩ := e1.own hi1
    rw [hσ] at h1; cases h1
    exact (h2 a).mpr rfl
  refine ⟨fun v H' F' fp' P e' st av w => ?_, hfa⟩
  obtain ⟨fp2, e2, st2, hfp⟩ := frameL e1 hi1 hσ hov hfa e' st
  refine q v H' F' fp2 P e2 (st1.trans st2) av ⟨w.nf, fun b j hb hj => ?_, w.th, fun b hb => ?_⟩
  · rcases hfp j b hj with h | h
    · rcases w.new b hb with ⟨k, hk⟩ | h2
      · obtain ⟨a', vs', z1, z2, z3, _⟩ := e'.sl 0 _ rfl
        have ea : a' = a := by have := z2 (.ref a) rfl; cases this; rfl
        subst ea
        rw [hk.2] at hb
        exact w.dj _ (.inl 0) hb ((z3 _).mpr rfl)
      · exact h2 (e1.th j b h)
    · exact w.dj b (.inl 0) hb h
  · rcases w.new b hb with ⟨k, hk⟩ | h2
    · obtain ⟨a', vs', z1, z2, z3, _⟩ := e'.sl 0 _ rfl
      have ea : a' = a := by have := z2 (.ref a) rfl; cases this; rfl
      subst ea
      rw [hk.2] at hb
      exact absurd ((z3 _).mpr rfl) (w.dj _ (.inl 0) hb)
    · by_cases z : ∃ j, fp j b
      · exact .inl z
      · exact .inr fun l => h2 (st1.live l fun i hi => z ⟨i, hi⟩)
/-- x = y, y an owned thing that moves -/
theorem run_mov {i j : Nat} {r : Rs} (hi : s.s[j]? = some (.res r)) (hp : ∀ {F H : Hp} {P : Addr → Prop} {sv : Option (Option V)}, r.ok F H P sv → ∃ v, sv = some (some v)) (hij : i ≠ j) : Run K E (tAsg (tVar j) (gName i)) s (.nx ((s.set j .unk).set i (.res r))) := fun σ H F fp e Ed q => by
  have h := e.sl j _ hi
  obtain ⟨v, hv⟩ := hp h
  have hjl : j < s.s.length := (List.getElem?_eq_some_iff.mp hi).1
  -- slot j forgotten
  have e1 : EnvW K σ (s.set j .unk) H F (fpSet fp (.inl j) noP) := by
    refine ⟨e.ex, by simp [S.set, e.len], fun k y hk => ?_, e.tb, fun a b c hab h1 h2 => ?_, fun a b h1 => ?_, fun a b h1 => ?_, e.nt⟩
    · by_cases z : k = j
      · subst z
        have e1 : (s.s.set k .unk)[k]? = some .unk := List.getElem?_set_self hjl
        rw [show (s.set k .unk).s = s.s.set k .unk from rfl, e1] at hk
        cases hk; trivial
      · have e1 : (s.s.set j .unk)[k]? = s.s[k]? := List.getElem?_set_ne (Ne.symm z)
        rw [show (s.set j .unk).s = s.s.set j .unk from rfl, e1] at hk
        rw [fpSet_ne (by intro q; cases q; exact z rfl)]
        exact e.sl k y hk
    · by_cases z : a = .inl j
      · subst z; rw [fpSet_same] at h1; exact h1
      · rw [fpSet_ne z] at h1
        by_cases y : b = .inl j
        · subst y; rw [fpSet_same] at h2; exact h2
        · rw [fpSet_ne y] at h2; exact e.dj a b c hab h1 h2
    · by_cases z : a = .inl j
      · subst z; rw [fpSet_same] at h1; exact h1.elim
      · rw [fpSet_ne z] at h1; exact e.nf a b h1
    · by_cases z : a = .inl j
      · subst z; rw [fpSet_same] at h1; exact h1.elim
      · rw [fpSet_ne z] at h1; exact e.th a b h1
  have w : Own H fp H F (fpSet fp (.inl j) noP) (fp (.inl j)) := by
    refine ⟨fun b hb => e.nf _ b hb, fun b k hb hk => ?_, fun b hb => e.th _ b hb, fun b hb => .inl ⟨_, hb⟩⟩
    by_cases z : k = .inl j
    · subst z; rw [fpSet_same] at hk; exact hk
    · rw [fpSet_ne z] at hk; exact e.dj k (.inl j) b z hk hb
  refine ⟨v, hv, q _ H F _ (e1.setO (by rw [← hv]; exact h) w) (Step.drop.own w)⟩
/-- two owned lists compared -/
theorem ev_opOO {ok : D → D → Prop} {f : D → D → D} {i j : Nat} {ov ov' : Option V} {ds ds' : List D} (hi : s.s[i]? = some (.res (lstR K ov ds))) (hj : s.s[j]? = some (.res (lstR K ov' ds'))) (h : ok (.list ds) (.list ds')) : Ev K (tOp (rD2 K ok f) (tVar i) (tVar j)) s (f (.list ds) (.list ds')) s := fun σ H F fp E Q q => by
  obtain ⟨a, vs, h1, _, h4, h5⟩ := E.own hi
  obtain ⟨a', vs', h1', _, h4', h5'⟩ := E.own hj
  exact ⟨.ref a, h1, .ref a', h1', F, .list ds, .list ds', E.ex, .inr ⟨_, _, _, rfl, rfl, h4, h5⟩, .inr ⟨_, _, _, rfl, rfl, h4', h5'⟩, h, fun v H' F' g a => q v H' F' fp (E.grow g) (E.growS g) a⟩
/-- a new list out of an owned one -/
theorem eo_cl1 {ok : List D → Prop} {f : List D → List D} {i : Nat} {ov : Option V} {ds : List D} (hi : s.s[i]? = some (.res (lstR K ov ds))) (h : ok [.list ds]) : EvO K (tCB (rDl K ok f) (tCons (tVar i) tNil)) s (lstR K none (f [.list ds])) s := fun σ H F fp E Q q => by
  obtain ⟨a, vs, h1, _, h4, h5⟩ := E.own hi
  refine ⟨.ref a, h1, F, [.list ds], E.ex, .cons (.inr ⟨_, _, _, rfl, rfl, h4, h5⟩) .nil, h, fun p vs' hp a' => ?_⟩
  exact q _ _ F fp (fun b => b = p) (E.growH hp) (Step.growH hp) ⟨p, vs', rfl, (fun _ z => nomatch z), fun _ => Iff.rfl, upd_same, a'⟩ (Own.laid E (Step.refl _ _ _) hp)
theorem eqv_ints : ∀ {xs ys : List Int}, PyData.eqvAll (xs.map PyData.int) (ys.map PyData.int) = decide (xs = ys)
  | [], [] => by simp [PyData.eqvAll]
  | [], y :: ys => by simp [PyData.eqvAll]
  | x :: xs, [] => by simp [PyData.eqvAll]
  | x :: xs, y :: ys => by
    rw [List.map_cons, List.map_cons]
    unfold PyData.eqvAll
    rw [eqv_ints (xs := xs) (ys := ys)]
    unfold PyData.eqv
    by_cases h : x = y <;> by_cases h2 : xs = ys <;> simp [h, h2]
theorem eqv_intL {xs ys : List Int} : PyData.eqv (.list (xs.map PyData.int)) (.list (ys.map PyData.int)) = decide (xs = ys) := by
  unfold PyData.eqv
  exact eqv_ints
theorem eqv_intT {xs ys : List Int} : PyData.eqv (.tuple (xs.map PyData.int)) (.tuple (ys.map PyData.int)) = decide (xs = ys) := by
  unfold PyData.eqv
  exact eqv_ints
theorem okL (ns : List Int) : SeqAt.shaped (.list (ns.map PyData.int)) = true := (sh_lst (n := 0) (ints_shs ns)).ok (by decide)
theorem okT (ns : List Int) : SeqAt.shaped (.tuple (ns.map PyData.int)) = true := (sh_tup (n := 0) (ints_shs ns)).ok (by decide)
/-- [e for i in range(n)] -/
theorem ev_lcR {tn : TE} {n : Int} {i : Nat} {f : Nat → D} (hn : Ev K tn s (.int n) s) (h1 : -1000000 ≤ n ∧ n ≤ 1000000) (hr : NoRes s [i]) (hw : ∀ y, SLe (((s.wipe [i]).set i y).wipe [i]) (s.wipe [i])) (he : ∀ k : Nat, (k : Int) < n → Ev K te ((s.wipe [i]).set i (.dat (.int (k : Nat)))) (f k) ((s.wipe [i]).set i (.dat (.int (k : Nat))))) :
    Ev K (tLc (iRng1 (tCons tn tNil)) (gName i) tYes te [i]) s (.list ((List.range n.toNat).map f)) s := by
  by_cases h0 : 0 ≤ n
  · refine Ev.to (ev_lcM (ds := upTo 0 n.toNat) (fun d => f (match d with | .int k => k.toNat | _ => 0)) (it_r1 hn (by omega)) (by rw [upTo_len]; exact le_size (by omega)) hr fun d hd => ?_) ?_
    · obtain ⟨k, hk, rfl⟩ := upTo_mem.mp hd
      refine ⟨_, tv_name (by simp), hw _, ?_⟩
      have e1 : (0 : Int) + (k : Int) = (k : Nat) := by omega
      rw [e1]
      exact he k (by omega)
    · unfold upTo
      rw [List.map_map]
      congr 1
      apply List.map_congr_left
      intro k _
      show f ((0 : Int) + (k : Int)).toNat = f k
      congr 1
      omega
  · have e0 : n.toNat = 0 := by omega
    rw [e0]
    refine Ev.to (ev_lcM (ds := upTo 0 n.toNat) (fun d => .none) (it_r1 hn (by omega)) (by rw [upTo_len]; exact le_size (by omega)) hr fun d hd => ?_) ?_
    · rw [e0] at hd
      simp [upTo] at hd
    · rw [e0]; rfl
/-- [e for i in xs], xs ints -/
theorem ev_lcI {tl : TE} {d : D} {ts : List Int} {i : Nat} {f : Int → D} (h : Ev K tl s d s) (hd : seqD d = some (ts.map PyData.int)) (hz : ts.length ≤ 1000000) (hr : NoRes s [i]) (hw : ∀ y, SLe (((s.wipe [i]).set i y).wipe [i]) (s.wipe [i])) (he : ∀ x, x ∈ ts → Ev K te ((s.wipe [i]).set i (.dat (.int x))) (f x) ((s.wipe [i]).set i (.dat (.int x)))) :
    Ev K (tLc (iSeq K tl) (gName i) tYes te [i]) s (.list (ts.map f)) s := by
  refine Ev.to (ev_lcM (fun d => match d with | .int k => f k | _ => .none) (it_seq h hd) (by rw [List.length_map]; exact le_size (by omega)) hr fun d hd => ?_) (by rw [List.map_map]; rfl)
  obtain ⟨x, hx, rfl⟩ := List.mem_map.mp hd
  exact ⟨_, tv_name (by simp), hw _, he x hx⟩
end
end DL

namespace DL
open PySem PySem.Spec PyProof.Rows L2
section
variable {K : PySem.W.Frag} {E : XK} {s s1 : S} {x1 x2 x3 : Sl} {ta : TA}
theorem run_tupX2 {i1 i2 : Nat} (h : EvX K ta s [x1, x2] s1) : Run K E (tAsg (tTup ta) (gTup K 2 (gCons (gName i1) (gCons (gName i2) gNil)))) s (.nx ((s1.set i1 x1).set i2 x2)) := fun σ H F fp e Ed q =>
  h σ H F fp e _ fun vs H' F' fp' P e' st l hx ol => by
    match vs, l with
    | [v1, v2], _ =>
      refine ⟨by show 2 ≤ sizeLine; decide, fun p hp => ?_⟩
      have ex := Ex.new (o := .tup [v1, v2]) hp
      have e2 := e'.growH (o := .tup [v1, v2]) hp
      have st2 := st.trans (Step.growH (F := F') (fp := fp') (o := .tup [v1, v2]) hp)
      have ow : ∀ i, Own H fp (upd H' p (.tup [v1, v2])) F' fp' (P i) := fun i => (ol.own i).growH hp
      have up : ∀ {i : Nat} {x : Sl} {sv : Option (Option V)}, SlOk K F' H' (P i) sv x → SlOk K F' (upd H' p (.tup [v1, v2])) (P i) sv x := fun {i x sv} z => z.mono (Ex.refl F') (fun b hb => ((ol.own i).th b hb).get ex) (ExtKeep.of ex)
      have z1 := up (hx 0 x1 rfl)
      have z2 := up (hx 1 x2 rfl)
      have o1 := ow 0
      have o2 := (ow 1).fps (i := .inl i1) (ol.dj 1 0 · (by decide))
      refine ⟨p, [v1, v2], rfl, .inl (.inl upd_same), rfl, v1, _, rfl, v2, _, rfl, rfl, ?_⟩
      exact q _ _ F' _ ((e2.setX (i := i1) z1 o1).setX (i := i2) z2 o2) ((st2.own o1).own o2)
theorem run_tupX3 {i1 i2 i3 : Nat} (h : EvX K ta s [x1, x2, x3] s1) : Run K E (tAsg (tTup ta) (gTup K 3 (gCons (gName i1) (gCons (gName i2) (gCons (gName i3) gNil))))) s (.nx (((s1.set i1 x1).set i2 x2).set i3 x3)) := fun σ H F fp e Ed q =>
  h σ H F fp e _ fun vs H' F' fp' P e' st l hx ol => by
    match vs, l with
    | [v1, v2, v3], _ =>
      refine ⟨by show 3 ≤ sizeLine; decide, fun p hp => ?_⟩
      have ex := Ex.new (o := .tup [v1, v2, v3]) hp
      have e2 := e'.growH (o := .tup [v1, v2, v3]) hp
      have st2 := st.trans (Step.growH (F := F') (fp := fp') (o := .tup [v1, v2, v3]) hp)
      have ow : ∀ i, Own H fp (upd H' p (.tup [v1, v2, v3])) F' fp' (P i) := fun i => (ol.own i).growH hp
      have up : ∀ {i : Nat} {x : Sl} {sv : Option (Option V)}, SlOk K F' H' (P i) sv x → SlOk K F' (upd H' p (.tup [v1, v2, v3])) (P i) sv x := fun {i x sv} z => z.mono (Ex.refl F') (fun b hb => ((ol.own i).th b hb).get ex) (ExtKeep.of ex)
      have z1 := up (hx 0 x1 rfl)
      have z2 := up (hx 1 x2 rfl)
      have z3 := up (hx 2 x3 rfl)
      have o1 := ow 0
      have o2 := (ow 1).fps (i := .inl i1) (ol.dj 1 0 · (by decide))
      have o3 := ((ow 2).fps (i := .inl i1) (ol.dj 2 0 · (by decide))).fps (i := .inl i2) (ol.dj 2 1 · (by decide))
      refine ⟨p, [v1, v2, v3], rfl, .inl (.inl upd_same), rfl, v1, _, rfl, v2, _, rfl, v3, _, rfl, rfl, ?_⟩
      exact q _ _ F' _ (((e2.setX (i := i1) z1 o1).setX (i := i2) z2 o2).setX (i := i3) z3 o3) (((st2.own o1).own o2).own o3)
end
end DL

namespace DL
open PySem PySem.Spec PyProof.Rows L2
theorem hu1 {X : Cx} {k : Nat} (hr : Room k X.A) : X.A.units + 1 < cLine := Nat.lt_of_le_of_lt (Nat.add_le_add_left (by decide) _) (hu65 hr)
theorem maxOf_le : ∀ (xs : List Int) (x : Int), x ≤ PySem.W.maxOf x xs ∧ (∀ y ∈ xs, y ≤ PySem.W.maxOf x xs) ∧ (PySem.W.maxOf x xs = x ∨ PySem.W.maxOf x xs ∈ xs)
  | [], x => ⟨Int.le_refl _, fun y h => by simp at h, .inl rfl⟩
  | y :: ys, x => by
    have e : PySem.W.maxOf x (y :: ys) = PySem.W.maxOf (if x < y then y else x) ys := by
      show List.foldl _ _ ys = List.foldl _ _ ys
      congr 1
      show (if decide (x < y) = true then y else x) = _
      simp
    obtain ⟨h1, h2, h3⟩ := maxOf_le ys (if x < y then y else x)
    rw [e]
    by_cases c : x < y
    · rw [if_pos c] at h1 h2 h3 ⊢
      refine ⟨by omega, fun z hz => ?_, ?_⟩
      · rcases List.mem_cons.mp hz with rfl | hz
        · exact h1
        · exact h2 z hz
      · rcases h3 with h | h
        · exact .inr (by rw [h]; exact List.mem_cons_self)
        · exact .inr (List.mem_cons_of_mem _ h)
    · rw [if_neg c] at h1 h2 h3 ⊢
      refine ⟨h1, fun z hz => ?_, ?_⟩
      · rcases List.mem_cons.mp hz with rfl | hz
        · omega
        · exact h2 z hz
      · rcases h3 with h | h
        · exact .inl h
        · exact .inr (List.mem_cons_of_mem _ h)
theorem maxOf_lmax {x : Int} {xs : List Int} : PySem.W.maxOf x xs = lmax (x :: xs) := by
  obtain ⟨h1, h2, h3⟩ := maxOf_le xs x
  refine (lmax_spec _ _ ?_ fun y hy => ?_).symm
  · rcases h3 with h | h
    · rw [h]; exact List.mem_cons_self
    · exact List.mem_cons_of_mem _ h
  · rcases List.mem_cons.mp hy with rfl | hy
    · exact h1
    · exact h2 y hy
def mmOkT : List D → Prop
  | [.tuple ds] => ds ≠ [] ∧ (intsOf ds).isSome = true
  | _ => False
def maxDT : List D → D
  | [.tuple ds] => .int (lmax ((intsOf ds).getD []))
  | _ => .none
theorem call_maxT {X : Cx} (hc : X.calm = true) (hu : X.A.units + 65 < cLine) : CallR X (.builtin "max") (rDn X.K mmOkT maxDT) := by
  intro pins s σ H xs us Q I r ⟨F, ds, e, ha, ok, k⟩
  match ds, ok, ha with
  | [.tuple ds], ⟨o1, o2⟩, .cons h1 .nil =>
    obtain ⟨p, vs, rfl, h2, _, h3⟩ := h1.tup e
    obtain ⟨ns, hn⟩ := Option.isSome_iff_exists.mp o2
    have ee := intsOf_eq hn
    subst ee
    rw [h3.ints] at h2
    obtain ⟨its, rv, hl, _⟩ := I.tuple h2
    have hi := rv.ints
    rw [Vals.ref1 r]
    cases ns with
    | nil => exact absurd rfl o1
    | cons x ns =>
      have H2 : PySem.W.HoldAll s.heap its (x :: ns) := PySem.W.HoldAll.of_ints hi
      refine PySem.W.max_tuple_datum (x := x) (xs := ns) (I.ok.hd hc) hl (by simpa using H2) (by show X.A.units + 1 + 0 < cLine; omega) fun i v h' tk hv hol hk => ?_
      rw [maxOf_lmax] at hol
      obtain ⟨t, rfl⟩ := PySem.W.int_of_holds hol
      have : maxDT [.tuple ((x :: ns).map PyData.int)] = .int (lmax (x :: ns)) := by simp only [maxDT, hn, Option.getD_some]
      rw [this] at k
      exact ⟨.int _, H, I.kept hk, ⟨_, rfl⟩, k _ H F (Grow.refl e) (.int _)⟩
section
variable {K : PySem.W.Frag} {s s1 : S} {ta : TE} {ms : List Int}
theorem ev_maxT (h : Ev K ta s (.tuple (ms.map PyData.int)) s1) (hn : ms ≠ []) : Ev K (tCB (rDn K mmOkT maxDT) (tCons ta tNil)) s (.int (lmax ms)) s1 := by
  refine (ev_cb (ea_cons h ea_nil) ⟨by simpa using hn, by rw [intsOf_map]; rfl⟩).to ?_
  show PyData.int (lmax ((intsOf (ms.map PyData.int)).getD [])) = _
  rw [intsOf_map]; rfl
end
end DL

namespace L2
open PySem PySem.Spec PyProof.Rows
section
variable {prog : Program} {w : World} {A : Around} {E : Value → Shared → Prop} {s : Shared}
theorem sliceApplied_rev {sl : Addr} {st : Value} {n : Nat} {Q : Int × Int × Nat → Shared → Prop} (hs : s.heap.IsSliceOf sl .none .none st) (ps : IsPart st (some (-1)))
    (h : Q ((n : Int) - 1, -1, n) s) : wpAny (model prog w) A (Builtin.Slice.sliceApplied (.ref sl) (pure (n : Int))) Q E s := by
  obtain ⟨os, hos, hcs, hds⟩ := id hs
  unfold Builtin.Slice.sliceApplied Builtin.Slice.sliceFields
  refine wpAny_bind (wpAny_bind (wpAny_field hos hds (x := .none) rfl (wpAny_bind (wpAny_field hos hds (x := .none) rfl (wpAny_bind (wpAny_field hos hds (x := st) rfl (wpAny_pure ?_)))))))
  refine wpAny_bind (HT.slicePart_ ps ?_)
  show wpAny _ _ (if ((-1 : Int) == 0) = true then _ else _) _ _ s
  rw [if_neg (by decide)]
  refine wpAny_bind (HT.slicePart_ .none (wpAny_bind (HT.slicePart_ .none (wpAny_bind (wpAny_pure ?_)))))
  show wpAny _ _ (pure ((n : Int) - 1, (-1 : Int), Builtin.Slice.slicePlaces ((n : Int) - 1) (-1) (-1))) _ _ s
  have e : Builtin.Slice.slicePlaces ((n : Int) - 1) (-1) (-1) = n := by
    unfold Builtin.Slice.slicePlaces
    rw [if_neg (by decide)]
    by_cases z : n = 0
    · subst z; rfl
    · rw [if_pos (by omega)]
      have : ((n : Int) - 1 - -1 - 1) / (- -1) = (n : Int) - 1 := by
        rw [show (- -1 : Int) = 1 by decide, Int.ediv_one]; omega
      rw [this]; omega
  rw [e]
  exact wpAny_pure h
theorem pick_rev (xs : Array Value) : ((List.range xs.size).filterMap fun (m : Nat) => xs[(((xs.size : Int) - 1) + (m : Int) * (-1)).toNat]?).toArray = xs.toList.reverse.toArray := by
  congr 1
  by_cases z : xs.size = 0
  · rw [z]
    have : xs.toList = [] := List.eq_nil_of_length_eq_zero (by rw [Array.length_toList]; exact z)
    rw [this]; rfl
  · have e : (fun (m : Nat) => xs[(((xs.size : Int) - 1) + (m : Int) * (-1)).toNat]?) = (fun (i : Nat) => xs[i]?) ∘ fun m => xs.size - 1 - m := by
      funext m
      show xs[(((xs.size : Int) - 1) + (m : Int) * (-1)).toNat]? = xs[xs.size - 1 - m]?
      congr 1
      omega
    rw [e, ← List.filterMap_map, PySem.W.krv_range, List.filterMap_reverse, PySem.W.krv_all]
theorem getItem_tuple_rev {t sl : Addr} {items : Array Value} {st : Value} {Q : Value → Shared → Prop} (ht : IsTup s.heap t items) (hs : s.heap.IsSliceOf sl .none .none st) (ps : IsPart st (some (-1)))
    (h : Q (.ref s.heap.objs.size) { s with heap := s.heap.push { cls := .type "tuple", data := .seq items.toList.reverse.toArray } })
    (hsz : items.size ≤ sizeLine) : wpAny (model prog w) A (getItem (.ref t) (.ref sl)) Q E s := by
  have htake : sizeOk (.seq items.toList.reverse.toArray) := by
    show items.toList.reverse.toArray.size ≤ sizeLine
    rw [List.size_toArray, List.length_reverse, Array.length_toList]
    exact hsz
  obtain ⟨os, hos, hcs, hds⟩ := id hs
  have hTs : s.TypeIs (.ref sl) "slice" := ⟨os, hos, hcs⟩
  unfold getItem
  try with_reducible refine wpAny_holding ?_
  first | refine wpAny_bind (wpAny_pure ?_) | skip
  refine wpAny_bind (wpAny_sequenceKey ht.typeIs (by decide) ?_)
  refine wpAny_bind (wpAny_callSpecial?_slot (name := Str.ofString "__getitem__") ht.typeIs PyProof.Rows.slot_tuple_getitem
    (wpAny_call_entry PyProof.Rows.slot_tuple_getitem ht.typeIs entry_tuple_getitem ?_ (args_tuple_getitem _ _)))
  show wpAny _ _ (Builtin.Tuple.tupleItemsOf (.ref t) >>= _) _ _ s
  refine wpAny_bind (tupleItemsOf_ ht ?_)
  refine wpAny_bind (wpAny_typeOf hTs ?_)
  rw [if_pos (by decide)]
  refine wpAny_bind (sliceApplied_rev hs ps ?_)
  have hno : ¬ ((((items.size : Int) - 1) == 0 && (-1 : Int) == 1 && items.size == items.size) = true) := by
    intro q
    rw [Bool.and_eq_true, Bool.and_eq_true] at q
    exact absurd (eq_of_beq q.1.2) (by decide)
  show wpAny _ _ (if (((items.size : Int) - 1) == 0 && (-1 : Int) == 1 && items.size == items.size) = true then _ else _) _ _ s
  rw [if_neg hno, pick_rev]
  first
    | exact wpAny_bind (m := Builtin.Tuple.tupleExact _) (wpAny_newObj_type (wpAny_pure ⟨_, rfl, wpAny_pure h⟩) htake)
    | exact wpAny_bind (m := Builtin.Tuple.tupleExact _) (wpAny_newObj_type (wpAny_bind (wpAny_pure (wpAny_pure ⟨_, rfl, wpAny_pure h⟩))) htake)
    | exact wpAny_bind (wpAny_bind (m := Builtin.Tuple.tupleExact _) (wpAny_newObj_type (wpAny_pure (wpAny_pure ⟨_, rfl, wpAny_pure h⟩)) htake))
    | exact wpAny_bind (wpAny_bind (m := Builtin.Tuple.tupleExact _) (wpAny_newObj_type (wpAny_pure ⟨_, rfl, wpAny_pure h⟩) htake))
end
section
variable {X : Cx}
/-- t[::-1] -/
def tRevT (K : PySem.W.Frag) (te : TE) : TE := fun σ H Q => te σ H fun x H1 => ∃ a xs, x = .ref a ∧ SqT K H1 a xs ∧ ∀ p, H1 p = none → Q (.ref p) (upd H1 p (.tup xs.reverse))
theorem pe_revT {e : Expr} {te : TE} {k : Nat} {p1 p2 p3 pos : Pos} (he : PE X e te) : PE X (.Subscript e (.Slice none none (some (.UnaryOp .USub (.Constant (.int 1) k p1) p2)) p3) pos) (tRevT X.K te) := by
  refine ⟨fun pins s σ H Q I h => ?_⟩
  refine Subscript_ (thn (he.run pins s σ H _ I h) fun v s1 ⟨x, H1, I1, r1, q1⟩ => ?_)
  obtain ⟨a, xs, ex, hx, q⟩ := q1
  subst ex
  cases r1
  have hst : PO X (some (.UnaryOp .USub (.Constant (.int 1) k p1) p2)) (tPart (tUn (rU fun i => .int (-i)) (tC (.int 1)))) := po_some (pe_un un_neg pe_int)
  refine wpAny_Slice (thn (po_none.run pins s1 σ H1 (fun o H2 => o = none ∧ H2 = H1) I1 ⟨rfl, rfl⟩) fun vl s2 ⟨l, H2, I2, pl, el, e2⟩ => ?_)
  subst el e2
  refine thn (po_none.run pins s2 σ H2 (fun o H3 => o = none ∧ H3 = H2) I2 ⟨rfl, rfl⟩) fun vu s3 ⟨u, H3, I3, pu, eu, e3⟩ => ?_
  subst eu e3
  refine thn (hst.run pins s3 σ H3 (fun o H4 => o = some (-1) ∧ H4 = H3) I3 ⟨1, rfl, -1, rfl, rfl, rfl⟩) fun vs s4 ⟨o, H4, I4, ps, eo, e4⟩ => ?_
  subst eo e4
  have I5 : Inv X pins σ H4 { s4 with heap := s4.heap.push { cls := .type "slice", data := .fields #[vl, vu, vs] } } := I4.kept (t' := s4.toks) fun b ob q => Heap.get?_push_of_some _ q
  obtain ⟨its, r, ht, hz⟩ := I5.tuple hx
  have hlen := r.length
  show wpAny (model X.prog X.w) X.A (subscriptTail e (.Slice none none (some (.UnaryOp .USub (.Constant (.int 1) k p1) p2)) p3) (.ref a) (.ref s4.heap.objs.size)) (EP X pins σ Q) X.xe { s4 with heap := s4.heap.push { cls := .type "slice", data := .fields #[vl, vu, vs] } }
  refine tail_any (ops := [.ref a, .ref s4.heap.objs.size]) ht.typeIs (PyProof.Rows.slot_tuple_getitem.lookup) ?_ (by with_unfolding_all rfl)
  cases pl
  cases pu
  refine getItem_tuple_rev ht (Heap.IsSliceOf.new _ .none .none vs) ps ?_ (by rw [List.size_toArray]; omega)
  refine ⟨.ref _, _, I5.laid (t' := s4.toks) (o := .tup xs.reverse) (fun b ob q => Heap.get?_push_of_some _ q) (Nat.le_refl _) ?_, rfl, q _ (I5.hok.fresh (Nat.le_refl _))⟩
  exact ⟨by rw [List.length_reverse]; exact hz, _, r.reverse, ⟨_, Heap.get?_push_size _ rfl, rfl, 0, rfl⟩⟩
end
end L2
namespace DL
open PySem PySem.Spec PyProof.Rows L2
section
variable {K : PySem.W.Frag} {s s1 : S} {te : TE} {ds : List D}
theorem AtAll.reverse {F : Hp} : ∀ {vs : List V} {ds : List D}, AtAll K F vs ds → AtAll K F vs.reverse ds.reverse
  | _, _, .nil => .nil
  | _, _, .cons h t => by rw [List.reverse_cons, List.reverse_cons]; exact (AtAll.reverse t).snoc h
theorem ev_revT (h : Ev K te s (.tuple ds) s1) : Ev K (tRevT K te) s (.tuple ds.reverse) s1 := fun σ H F fp E Q q =>
  h σ H F fp E _ fun v H1 F1 fp1 E1 st1 a1 => by
    cases a1 with
    | @tup a vs _ hs ha =>
      refine ⟨_, _, rfl, E1.ex.sqT hs, fun p hp => ?_⟩
      have g : Grow F1 H1 (upd F1 p (.tup vs.reverse)) (upd H1 p (.tup vs.reverse)) := Grow.laid E1.ex hp
      exact q _ _ _ fp1 (E1.grow g) (st1.trans (E1.growS g)) (.tup (.inl (.inl upd_same)) (ha.reverse.ex g.f))
theorem ev_revL (h : Ev K te s (.list ds) s1) : Ev K (tRevL K te) s (.list ds.reverse) s1 := fun σ H F fp E Q q =>
  h σ H F fp E _ fun v H1 F1 fp1 E1 st1 a1 => by
    cases a1 with
    | @lst a vs _ hs ha =>
      refine ⟨_, _, rfl, .inl (.inl (E1.ex _ _ hs)), fun p hp => ?_⟩
      have g : Grow F1 H1 (upd F1 p (.lst vs.reverse)) (upd H1 p (.lst vs.reverse)) := Grow.laid E1.ex hp
      exact q _ _ _ fp1 (E1.grow g) (st1.trans (E1.growS g)) (.lst upd_same (ha.reverse.ex g.f))
end
theorem cut_map {α β : Type} (f : α → β) (xs : List α) (lo hi : Option Int) : cutL (xs.map f) lo hi = (cutL xs lo hi).map f := by
  unfold cutL
  rw [List.length_map, ← List.map_drop, ← List.map_take]
theorem cut_len {α : Type} (xs : List α) (lo hi : Option Int) : (cutL xs lo hi).length ≤ xs.length := by
  unfold cutL
  rw [List.length_take, List.length_drop]
  omega
end DL

namespace CM
open PySem PySem.Spec PyProof.Rows L2 DL
/-! ### the choices of a plan, a dict -/
structure PL where
  rows : Int
  lamps : Int
  crews : Int
  work : Int
  every : Int
  early : Int
  sync : Int
  burst : Int
  gap : Int
  trips : Int
  drift : Int
  cloud : Int
  most : Int
  fixed : Int
  spare : Int
def plKV (p : PL) : List (D × D) := [(.str "rows", .int p.rows), (.str "lamps", .int p.lamps), (.str "crews", .int p.crews), (.str "work", .int p.work), (.str "every", .int p.every), (.str "early", .int p.early), (.str "sync", .int p.sync), (.str "burst", .int p.burst), (.str "gap", .int p.gap), (.str "trips", .int p.trips), (.str "drift", .int p.drift), (.str "cloud", .int p.cloud), (.str "most", .int p.most), (.str "fixed", .int p.fixed), (.str "spare", .int p.spare)]
def plD (p : PL) : D := .dict (plKV p)
theorem pl_rows {p : PL} : dlook (plKV p) (.inr "rows") = some (.int p.rows) := by kernel_rfl
theorem pl_lamps {p : PL} : dlook (plKV p) (.inr "lamps") = some (.int p.lamps) := by kernel_rfl
theorem pl_crews {p : PL} : dlook (plKV p) (.inr "crews") = some (.int p.crews) := by kernel_rfl
theorem pl_work {p : PL} : dlook (plKV p) (.inr "work") = some (.int p.work) := by kernel_rfl
theorem pl_every {p : PL} : dlook (plKV p) (.inr "every") = some (.int p.every) := by kernel_rfl
theorem pl_early {p : PL} : dlook (plKV p) (.inr "early") = some (.int p.early) := by kernel_rfl
theorem pl_sync {p : PL} : dlook (plKV p) (.inr "sync") = some (.int p.sync) := by kernel_rfl
theorem pl_burst {p : PL} : dlook (plKV p) (.inr "burst") = some (.int p.burst) := by kernel_rfl
theorem pl_gap {p : PL} : dlook (plKV p) (.inr "gap") = some (.int p.gap) := by kernel_rfl
theorem pl_trips {p : PL} : dlook (plKV p) (.inr "trips") = some (.int p.trips) := by kernel_rfl
theorem pl_drift {p : PL} : dlook (plKV p) (.inr "drift") = some (.int p.drift) := by kernel_rfl
theorem pl_cloud {p : PL} : dlook (plKV p) (.inr "cloud") = some (.int p.cloud) := by kernel_rfl
theorem pl_most {p : PL} : dlook (plKV p) (.inr "most") = some (.int p.most) := by kernel_rfl
theorem pl_fixed {p : PL} : dlook (plKV p) (.inr "fixed") = some (.int p.fixed) := by kernel_rfl
theorem pl_spare {p : PL} : dlook (plKV p) (.inr "spare") = some (.int p.spare) := by kernel_rfl
/-- the dice behind the first k rolls -/
def rolls (l : List Int) (d : Dice) (k : Nat) : Dice := (l.take k).foldl CM.rd d
theorem rolls_ok {n : Int} {d : Dice} {l : List Int} (h : DOk n d) : ∀ k : Nat, DOk (n + k) (rolls l d k) := by
  intro k
  have key : ∀ (m : List Int) (n : Int) (d : Dice), DOk n d → DOk (n + m.length) (m.foldl CM.rd d) := by
    intro m
    induction m with
    | nil => intro n d h; exact h.up (by simp)
    | cons x m ih => intro n d h; exact (ih (n + 1) _ h.rd).up (by simp; omega)
  refine (key (l.take k) n d h).up ?_
  rw [List.length_take]
  omega
def ofInt : D → Int
  | .int n => n
  | _ => 0
/-- what is drawn small -/
def chD (d : Dice) (k : Nat) : Dice := rolls [4, 3, 3, 5, 5, 14, 3, 4, 5, 6, 3, 6, 14, 22, 30] d k
def chP (d : Dice) : PL := ⟨ofInt (pick d [.int 1, .int 2, .int 2, .int 3]), 1 + rv (chD d 1) 3, 1 + rv (chD d 2) 3, 1 + rv (chD d 3) 5, 1 + rv (chD d 4) 5, rv (chD d 5) 14, 1 + rv (chD d 6) 3, 1 + rv (chD d 7) 4, 1 + rv (chD d 8) 5, ofInt (pick (chD d 9) [.int 0, .int 0, .int 1, .int 1, .int 2, .int 3]), rv (chD d 10) 3, rv (chD d 11) 6, rv (chD d 12) 14, rv (chD d 13) 22, rv (chD d 14) 30⟩
/-- what is drawn from the whole table -/
def wdD (d : Dice) (k : Nat) : Dice := rolls [3, 4, 4, 12, 12, 61, 10, 6, 12, 4, 6, 31, 101, 30, 2, 101, 40, 2, 201] d k
def wdP (d : Dice) : PL := ⟨1 + rv (wdD d 0) 3, 1 + rv (wdD d 1) 4, 1 + rv (wdD d 2) 4, 1 + rv (wdD d 3) 12, 1 + rv (wdD d 4) 12, rv (wdD d 5) 61, 1 + rv (wdD d 6) 10, 1 + rv (wdD d 7) 6, 1 + rv (wdD d 8) 12, rv (wdD d 9) 4, rv (wdD d 10) 6, rv (wdD d 11) 31,
  ofInt (pick (wdD d 14) [.int (rv (wdD d 12) 101), .int (rv (wdD d 13) 30)]), ofInt (pick (wdD d 17) [.int (rv (wdD d 15) 101), .int (rv (wdD d 16) 40)]), rv (wdD d 18) 201⟩
/-- choices that the table lets -/
structure POk (p : PL) : Prop where
  rows : 1 ≤ p.rows ∧ p.rows ≤ 3
  lamps : 1 ≤ p.lamps ∧ p.lamps ≤ 4
  crews : 1 ≤ p.crews ∧ p.crews ≤ 4
  work : 1 ≤ p.work ∧ p.work ≤ 12
  every : 1 ≤ p.every ∧ p.every ≤ 12
  early : 0 ≤ p.early ∧ p.early ≤ 60
  sync : 1 ≤ p.sync ∧ p.sync ≤ 10
  burst : 1 ≤ p.burst ∧ p.burst ≤ 6
  gap : 1 ≤ p.gap ∧ p.gap ≤ 12
  trips : 0 ≤ p.trips ∧ p.trips ≤ 3
  drift : 0 ≤ p.drift ∧ p.drift ≤ 5
  cloud : 0 ≤ p.cloud ∧ p.cloud ≤ 30
  most : 0 ≤ p.most ∧ p.most ≤ 100
  fixed : 0 ≤ p.fixed ∧ p.fixed ≤ 100
  spare : 0 ≤ p.spare ∧ p.spare ≤ 200
theorem pick4 {d : Dice} : pick d [.int 1, .int 2, .int 2, .int 3] = .int (ofInt (pick d [.int 1, .int 2, .int 2, .int 3])) ∧ 1 ≤ ofInt (pick d [.int 1, .int 2, .int 2, .int 3]) ∧ ofInt (pick d [.int 1, .int 2, .int 2, .int 3]) ≤ 3 := by
  have h := pick_mem (d := d) (xs := [.int 1, .int 2, .int 2, .int 3]) (List.cons_ne_nil _ _)
  generalize pick d [.int 1, .int 2, .int 2, .int 3] = y at h ⊢
  simp only [List.mem_cons, List.not_mem_nil, or_false] at h
  rcases h with h | h | h | h <;> subst h <;> exact ⟨rfl, by decide, by decide⟩
theorem pick6 {d : Dice} : pick d [.int 0, .int 0, .int 1, .int 1, .int 2, .int 3] = .int (ofInt (pick d [.int 0, .int 0, .int 1, .int 1, .int 2, .int 3])) ∧ 0 ≤ ofInt (pick d [.int 0, .int 0, .int 1, .int 1, .int 2, .int 3]) ∧ ofInt (pick d [.int 0, .int 0, .int 1, .int 1, .int 2, .int 3]) ≤ 3 := by
  have h := pick_mem (d := d) (xs := [.int 0, .int 0, .int 1, .int 1, .int 2, .int 3]) (List.cons_ne_nil _ _)
  generalize pick d [.int 0, .int 0, .int 1, .int 1, .int 2, .int 3] = y at h ⊢
  simp only [List.mem_cons, List.not_mem_nil, or_false] at h
  rcases h with h | h | h | h | h | h <;> subst h <;> exact ⟨rfl, by decide, by decide⟩
theorem pick2 {d : Dice} {a b m : Int} (ha : 0 ≤ a ∧ a ≤ m) (hb : 0 ≤ b ∧ b ≤ m) : pick d [.int a, .int b] = .int (ofInt (pick d [.int a, .int b])) ∧ 0 ≤ ofInt (pick d [.int a, .int b]) ∧ ofInt (pick d [.int a, .int b]) ≤ m := by
  have h := pick_mem (d := d) (xs := [.int a, .int b]) (List.cons_ne_nil _ _)
  generalize pick d [.int a, .int b] = y at h ⊢
  simp only [List.mem_cons, List.not_mem_nil, or_false] at h
  rcases h with h | h <;> subst h
  · exact ⟨rfl, ha⟩
  · exact ⟨rfl, hb⟩
theorem chP_ok (d : Dice) : POk (chP d) := by
  have r := fun (d : Dice) (t : Int) (h : 0 < t) => And.intro (rv0 (d := d) h) (rv1 (d := d) h)
  have h0 := (pick4 (d := d)).2
  have h1 := r (chD d 1) 3 (by decide); have h2 := r (chD d 2) 3 (by decide); have h3 := r (chD d 3) 5 (by decide); have h4 := r (chD d 4) 5 (by decide)
  have h5 := r (chD d 5) 14 (by decide); have h6 := r (chD d 6) 3 (by decide); have h7 := r (chD d 7) 4 (by decide); have h8 := r (chD d 8) 5 (by decide)
  have h9 := (pick6 (d := chD d 9)).2; have h10 := r (chD d 10) 3 (by decide); have h11 := r (chD d 11) 6 (by decide); have h12 := r (chD d 12) 14 (by decide)
  have h13 := r (chD d 13) 22 (by decide); have h14 := r (chD d 14) 30 (by decide)
  constructor <;> simp only [chP] <;> omega
theorem wdP_ok (d : Dice) : POk (wdP d) := by
  have r := fun (d : Dice) (t : Int) (h : 0 < t) => And.intro (rv0 (d := d) h) (rv1 (d := d) h)
  have h0 := r (wdD d 0) 3 (by decide); have h1 := r (wdD d 1) 4 (by decide); have h2 := r (wdD d 2) 4 (by decide); have h3 := r (wdD d 3) 12 (by decide); have h4 := r (wdD d 4) 12 (by decide)
  have h5 := r (wdD d 5) 61 (by decide); have h6 := r (wdD d 6) 10 (by decide); have h7 := r (wdD d 7) 6 (by decide); have h8 := r (wdD d 8) 12 (by decide)
  have h9 := r (wdD d 9) 4 (by decide); have h10 := r (wdD d 10) 6 (by decide); have h11 := r (wdD d 11) 31 (by decide)
  have h12 := r (wdD d 12) 101 (by decide); have h13 := r (wdD d 13) 30 (by decide); have h15 := r (wdD d 15) 101 (by decide); have h16 := r (wdD d 16) 40 (by decide); have h18 := r (wdD d 18) 201 (by decide)
  have k1 := (pick2 (d := wdD d 14) (a := rv (wdD d 12) 101) (b := rv (wdD d 13) 30) (m := 100) (by omega) (by omega)).2
  have k2 := (pick2 (d := wdD d 17) (a := rv (wdD d 15) 101) (b := rv (wdD d 16) 40) (m := 100) (by omega) (by omega)).2
  constructor <;> simp only [wdP] <;> omega
theorem chD_ok {n : Int} {d : Dice} (h : DOk n d) (k : Nat) : DOk (n + k) (chD d k) := rolls_ok h k
theorem wdD_ok {n : Int} {d : Dice} (h : DOk n d) (k : Nat) : DOk (n + k) (wdD d k) := rolls_ok h k
end CM

/-! defs with **kw, called with keywords -/
namespace KwX
open PySem PySem.Spec PySem.W PyProof.Rows L2
section
variable {prog : Program} {w : World} {A : Around} {E : Value → Shared → Prop} {s : Shared} {d : Addr}
theorem ns_new {es : List DictEntry} {n : Nat} {k : Str} {v : Value} {Q : Unit → Shared → Prop} (ho : s.heap.get? d = some (W.dictOf es n)) (hs : ∀ e ∈ es, e.key.isStr k = false) (hr : ∀ e ∈ es, e.refKey = false)
    (h : ∀ h' : Heap, h'.get? d = some (W.dictOf (es ++ [⟨PyData.keyHash w.params k, .str k s.toks, v⟩]) (n + 1)) → (∀ b, b ≠ d → h'.get? b = s.heap.get? b) → h'.objs.size = s.heap.objs.size → Q () { s with heap := h', toks := s.toks + 1 }) :
    wpAny (model prog w) A (nsSet d k v) Q E s := by
  have e1 : es.any (·.key.isStr k) = false := by
    cases q : es.any (·.key.isStr k) with
    | false => rfl
    | true => obtain ⟨e, he, z⟩ := List.any_eq_true.mp q; rw [hs e he] at z; cases z
  have e2 : es.any (·.refKey) = false := by
    cases q : es.any (·.refKey) with
    | false => rfl
    | true => obtain ⟨e, he, z⟩ := List.any_eq_true.mp q; rw [hr e he] at z; cases z
  have e : Obj.putName k (PyData.keyHash w.params k) (.str k s.toks) v (W.dictOf es n) = W.dictOf (es ++ [⟨PyData.keyHash w.params k, .str k s.toks, v⟩]) (n + 1) := by
    rw [putName_dict, putL_new hs]
    show W.dictOf _ (if es.any (·.key.isStr k) then n else n + 1) = _
    rw [e1, if_neg Bool.false_ne_true]
  have c : aRefKeyMayBeTheName k es.toArray = false := by
    rw [aRefKeyMayBeTheName_at, ← Array.any_toList, ← Array.any_toList]
    show (!es.any (·.key.isStr k) && es.any (·.refKey)) = false
    rw [e2, Bool.and_false]
  unfold nsSet
  refine wpAny_bind (wpAny_bind (wpAny_askSetting (wpAny_pure (wpAny_bind (wpAny_mkText (wpAny_bind (wpAny_loadPart ho ?_)))))))
  dsimp only
  rw [c]
  show wpAny (model prog w) A (updatePart d (some (.str k 0)) (Obj.putName k (PyData.keyHash w.params k) (.str k s.toks) v)) Q E { s with toks := s.toks + 1 }
  refine wpAny_updatePart ho (h _ ?_ (fun b hb => Heap.get?_update_ne _ _ _ _ hb) (Heap.size_update ..))
  rw [Heap.get?_update_self _ ho (by rw [e]; rfl), e]
theorem ns_fill {Q : PUnit → Shared → Prop} : ∀ (ex : List (Str × Value)) (s : Shared) (es : List DictEntry) (n : Nat), s.heap.get? d = some (W.dictOf es n) →
    (∀ e ∈ es, ∀ x ∈ ex, e.key.isStr x.1 = false) → (∀ e ∈ es, e.refKey = false) → (ex.map (·.1)).Nodup →
    (∀ h' : Heap, h'.get? d = some (W.dictOf (es ++ kwEs w.params s.toks ex) (n + ex.length)) → (∀ b, b ≠ d → h'.get? b = s.heap.get? b) → h'.objs.size = s.heap.objs.size → Q ⟨⟩ { s with heap := h', toks := s.toks + ex.length }) →
    wpAny (model prog w) A (forIn ex PUnit.unit fun x _ => (nsSet d x.1 x.2 >>= fun _ => pure (ForInStep.yield PUnit.unit))) Q E s
  | [], s, es, n, ho, _, _, _, h => by
    rw [List.forIn_nil]
    refine wpAny_pure (h s.heap ?_ (fun _ _ => rfl) rfl)
    show s.heap.get? d = some (W.dictOf (es ++ []) n)
    rw [List.append_nil]
    exact ho
  | x :: r, s, es, n, ho, hs, hr, hn, h => by
    obtain ⟨hn1, hn2⟩ := List.nodup_cons.mp (show (x.1 :: r.map (·.1)).Nodup from hn)
    rw [List.forIn_cons]
    refine wpAny_bind (wpAny_bind (ns_new ho (fun e he => hs e he x (.head _)) hr fun h' N' K' S' => wpAny_pure ?_))
    show wpAny (model prog w) A (forIn r PUnit.unit fun x _ => (nsSet d x.1 x.2 >>= fun _ => pure (ForInStep.yield PUnit.unit))) Q E { s with heap := h', toks := s.toks + 1 }
    refine ns_fill r { s with heap := h', toks := s.toks + 1 } _ _ N' (fun e he y hy => ?_) (fun e he => ?_) hn2 fun h'' N'' K'' S'' => ?_
    · rcases List.mem_append.mp he with he | he
      · exact hs e he y (.tail _ hy)
      · obtain rfl := List.mem_singleton.mp he
        show (x.1 == y.1) = false
        exact beq_eq_false_iff_ne.mpr fun q => hn1 (by rw [q]; exact List.mem_map_of_mem hy)
    · rcases List.mem_append.mp he with he | he
      · exact hr e he
      · obtain rfl := List.mem_singleton.mp he
        rfl
    · have t1 : s.toks + 1 + r.length = s.toks + (r.length + 1) := by omega
      have t2 : n + 1 + r.length = n + (r.length + 1) := by omega
      show Q ⟨⟩ { s with heap := h'', toks := s.toks + 1 + r.length }
      rw [t1]
      refine h h'' ?_ (fun b hb => (K'' b hb).trans (K' b hb)) (S''.trans S')
      rw [t2, List.append_assoc] at N''
      exact N''
end
/-- keywords as a dict's pairs -/
def kwK {α : Type} (ex : List (Str × α)) : List (Key × α) := ex.map fun x => (Sum.inr x.1, x.2)
section
variable {P : Program} {w : World}
theorem kw_pairs : ∀ (ex : List (Str × Value)) (t : Tok), Pairs (mixKind P w) (kwEs w.params t ex) (kwK ex)
  | [], _ => Pairs.nil
  | x :: r, t => Pairs.cons (mixKind_str P w x.1 t) rfl (kw_pairs r (t + 1))
theorem kwK_nodup {ex : List (Str × Value)} (h : (ex.map (·.1)).Nodup) : ((kwK ex).map (·.1)).Nodup := by
  unfold kwK
  rw [List.map_map]
  have : (ex.map (·.1)).map (Sum.inr (α := Int)) = ex.map ((fun x => x.1) ∘ fun x : Str × Value => ((Sum.inr x.1 : Key), x.2)) := by rw [List.map_map]; rfl
  rw [← this]
  refine List.Pairwise.map _ ?_ h
  intro a b hab e
  exact hab (Sum.inr.inj e)
theorem kw_dict {h : Heap} {d : Addr} {ex : List (Str × Value)} {t : Tok} {n : Nat} (hd : h.get? d = some (W.dictOf (kwEs w.params t ex) n)) (hn : (ex.map (·.1)).Nodup) : h.DictOf (mixKind P w) d (kwK ex) :=
  ⟨_, (kwEs w.params t ex).toArray, n, hd, ⟨rfl, rfl, rfl⟩, rfl, fun e he => by
    obtain ⟨k, u, hk, hh⟩ := kwEs_key ex t e (List.mem_toArray.mp he)
    exact ⟨Sum.inr k, by rw [hk]; exact mixKind_str P w k u, hh.trans rfl⟩, kw_pairs ex t, kwK_nodup hn⟩
end
/-- how a def f(p, **d) binds -/
structure KwDef (fd : FuncData) (p d : Str) : Prop where
  bind : ∀ (u : Value) (kw : List (Str × Value)), (∀ x ∈ kw, x.1 ≠ p) → kw.length ≤ sizeLine → bindArgs fd ⟨[u], kw⟩ =
    (alloc { cls := .type "dict", data := .dict #[] } >>= fun a => (forIn kw PUnit.unit fun x _ => (nsSet a x.1 x.2 >>= fun _ => pure (ForInStep.yield PUnit.unit))) >>= fun _ => pure [(p, u), (d, .ref a)])
theorem loop_kw {p : Str} (f : Str × Value → List (Str × Value) × List (Str × Value) → Sem (ForInStep (List (Str × Value) × List (Str × Value))))
    (hf : ∀ k v b, k ≠ p → f (k, v) b = pure (.yield (b.1, b.2 ++ [(k, v)]))) : ∀ (kw : List (Str × Value)) (sl ex : List (Str × Value)), (∀ x ∈ kw, x.1 ≠ p) → forIn kw (sl, ex) f = pure (sl, ex ++ kw)
  | [], sl, ex, _ => by rw [List.forIn_nil, List.append_nil]
  | (k, v) :: r, sl, ex, h => by
    rw [List.forIn_cons, hf k v _ (h _ (.head _))]
    have := loop_kw f hf r sl (ex ++ [(k, v)]) fun x hx => h x (.tail _ hx)
    rw [List.append_assoc] at this
    exact this
theorem kwDef_of {fd : FuncData} {p d : Str} {a : Arg} (h1 : fd.params.posonlyargs = []) (h2 : fd.params.args.map (·.arg) = [p]) (h3 : fd.params.kwonlyargs = []) (h4 : fd.params.vararg = none) (h5 : fd.params.kwarg = some a) (h6 : a.arg = d) (h7 : fd.defaults = .none) : KwDef fd p d where
  bind u kw hk hl := by
    unfold bindArgs
    dsimp only
    rw [h1, h2, h3, h4, h5, h7]
    dsimp only [List.map_nil, List.nil_append, List.zip, List.zipWith]
    simp only [Option.isSome_some]
    rw [loop_kw (p := p) _ (fun k v b hne => ?_) kw _ [] hk]
    · simp only [pure_bind, List.nil_append]
      have hs : seqItems? .none = pure none := rfl
      rw [hs]
      simp only [pure_bind]
      simp
      rw [if_neg (by omega), h6]
    · simp [hne]
end KwX

namespace KwX
open PySem PySem.Spec PySem.W PyProof.Rows L2 StX
section
variable {P : Program} {w : World} {K : PySem.W.Frag} {mg : Str → Option Value} {base : Heap} {A : Around} {outer : List Env} {s : Shared} {H : Hp}
/-- a new object, tracked, ahead of a def's body -/
theorem env0_fresh (e0 : Env0 P w K mg base A outer s H) {h' : Heap} {t : Nat} {a : Addr} {u : HO} (kp : ∀ b x, s.heap.get? b = some x → h'.get? b = some x) (ha : s.heap.objs.size ≤ a) (sz : s.heap.objs.size ≤ h'.objs.size) (new : ObjOk P w (upd H a u) h' a u) :
    Env0 P w K mg base A outer { s with heap := h', toks := t } (upd H a u) := by
  refine ⟨e0.frames, e0.mod, fun b x e => ⟨kp b x (e0.bs b x e).1, ?_⟩, Nat.le_trans e0.bsz sz, Heap.FunFrames.of_keeps (fun b x e _ => ⟨x, kp b x e, rfl⟩) e0.funs, fun b hb => ?_, e0.hok.laid kp ha new, e0.bare⟩
  · rw [upd_ne (Nat.ne_of_lt (Nat.lt_of_lt_of_le (Heap.lt_size (e0.bs b x e).1) ha))]
    exact (e0.bs b x e).2
  · obtain ⟨_, x, hx, _⟩ := e0.funs.mem hb
    rw [upd_ne (Nat.ne_of_lt (Nat.lt_of_lt_of_le (Heap.lt_size hx) ha))]
    exact e0.frf b hb
end
/-- names and values: the same names -/
abbrev KVs (kvs : List (Str × V)) (kw : List (Str × Value)) : Prop := KV kvs kw
theorem kv_kwK : ∀ {kvs : List (Str × V)} {kw : List (Str × Value)}, KV kvs kw → KV (kwK kvs) (kwK kw)
  | _, _, .nil => .nil
  | _, _, .cons h t => .cons ⟨congrArg Sum.inr h.1, h.2⟩ (kv_kwK t)
theorem kv_keys : ∀ {kvs : List (Str × V)} {kw : List (Str × Value)}, KV kvs kw → kw.map (·.1) = kvs.map (·.1)
  | _, _, .nil => rfl
  | _, _, .cons h t => by rw [List.map_cons, List.map_cons, kv_keys t, h.1]
/-- the promise of a def f(p, **d): its own value, the keywords -/
def FnKw (P : Program) (w : World) (K : PySem.W.Frag) (mg : Str → Option Value) (base : Heap) (CX : CXT) (k : Nat) (f : Addr) (p : Str) (sp : Sp) : Prop :=
  ∀ (A : Around) (outer : List Env) (s : Shared) (H : Hp) (u : Value) (kw : List (Str × Value)) (x : V) (kvs : List (Str × V)) (Q : VK) (E : XK), Room k A → Env0 P w K mg base A outer s H → RelV x u → KV kvs kw → (kvs.map (·.1)).Nodup → (∀ y ∈ kvs, y.1 ≠ p) → kvs.length ≤ sizeLine →
    (∀ dd od, H dd = none → sp [x, .ref dd] (upd H dd (.frz od (.dK (kwK kvs)))) Q E) → codeAny (model P w) A (.call (.ref f) ⟨[u], kw⟩) (CR CX outer P w H s Q E) s
theorem FnKw.mono {P : Program} {w : World} {K : PySem.W.Frag} {mg : Str → Option Value} {base : Heap} {CX : CXT} {j k : Nat} {f : Addr} {p : Str} {sp : Sp} (F : FnKw P w K mg base CX j f p sp) (h : j ≤ k) : FnKw P w K mg base CX k f p sp :=
  fun A outer s H u kw x kvs Q E hr => F A outer s H u kw x kvs Q E (hr.mono h)
section
variable {CX : CXT} {P : Program} {w : World} {K : PySem.W.Frag} {mg : Str → Option Value} {base : Heap} {k : Nat} {f : Addr} {name qual : Str} {params : Arguments} {body : List Stmt} {scope : Scope} {dV kV doc pm cdv ct oc : Value} {an od : Option Addr}
  {osl : Array (Option Value)} {N : List Str} {sp : Sp} {p d : Str}
theorem fn_kw (lk : K.lookup f = some ⟨oc, od, .func (PySem.W.fnOf name qual params body scope dV kV doc pm an cdv ct), osl⟩) (hcd : PySem.W.codeIn K cdv qual = true) (S : FnScope N [p, d] scope) (hCX : CXUp CX)
    (hb : KwDef (PySem.W.fnOf name qual params body scope dV kV doc pm an cdv ct) p d)
    (hbody : ∀ (A : Around) (outer : List Env) (s : Shared) (H : Hp) (vs : List V) (Q : VK) (E : XK), Room k (A.deeper (envOfC qual scope s.heap.objs.size f cdv)) → sp vs H Q E →
      ∃ t, PSs (cxOf CX P w K mg base N qual scope f cdv A outer s H E) body t ∧ t { nx := fun _ H' => Q .non H', rt := Q } (start N vs) H) :
    FnKw P w K mg base CX (k + 1) f p sp := by
  intro A outer s H u kw x kvs Q E hr e0 rx rk hn hp hl hsp
  have hn0 : H s.heap.objs.size = Option.none := e0.hok.fresh (Nat.le_refl _)
  have lk2 : kw.length = kvs.length := by have := congrArg List.length (kv_keys rk); simpa using this
  have hnk : (kw.map (·.1)).Nodup := by rw [kv_keys rk]; exact hn
  have hpk : ∀ y ∈ kw, y.1 ≠ p := fun y hy e => by
    have : y.1 ∈ kvs.map (·.1) := by rw [← kv_keys rk]; exact List.mem_map_of_mem hy
    obtain ⟨z, hz, ez⟩ := List.mem_map.mp this
    exact hp z hz (ez.trans e)
  refine run_bnd lk hcd S hr e0 (G := fun xs H2 => ∃ dd od, H dd = Option.none ∧ xs = [x, V.ref dd] ∧ H2 = upd H dd (.frz od (.dK (kwK kvs)))) (fun A' Ex Q' h => ?_) fun s2 H2 xs ⟨dd, od, hdd, ex, eH⟩ hr' => ?_
  · rw [hb.bind u kw hpk (by omega)]
    refine wpAny_bind (wpAny_alloc (wpAny_bind ?_))
    have h0 : (s.heap.push ({ cls := .type "dict", data := .dict #[] } : Obj)).get? s.heap.objs.size = some (W.dictOf [] 0) := Heap.get?_push_size _ rfl
    refine ns_fill kw { s with heap := s.heap.push ({ cls := .type "dict", data := .dict #[] } : Obj) } [] 0 h0 (fun e he => by simp at he) (fun e he => by simp at he) hnk fun h' N' K' S' => wpAny_pure ?_
    have kp : ∀ b o, s.heap.get? b = some o → h'.get? b = some o := fun b o e => by
      rw [K' b (Nat.ne_of_lt (Heap.lt_size e))]
      exact Heap.get?_push_of_some _ e
    have hs' : s.heap.objs.size ≤ h'.objs.size := by
      rw [S', Heap.size_push]
      exact Nat.le_succ _
    have hd : h'.DictOf (mixKind P w) s.heap.objs.size (kwK kw) := kw_dict N' hnk
    obtain ⟨od, hod⟩ : ∃ od, h'.get? s.heap.objs.size = some od := ⟨_, N'⟩
    have new : ObjOk P w (upd H s.heap.objs.size (.frz od (.dK (kwK kvs)))) h' s.heap.objs.size (.frz od (.dK (kwK kvs))) :=
      ⟨hod, by unfold kwK; rw [List.length_map]; exact hl, beq_eq_false_iff_ne.mpr (Ne.symm (Nat.ne_of_lt (env0_big e0))), kwK kw, kv_kwK rk, hd⟩
    have un : Un (frs outer) [] H (upd H s.heap.objs.size (.frz od (.dK (kwK kvs)))) s.heap h' := Un.laid kp (Nat.le_refl _) hn0
    exact h _ _ [x, V.ref s.heap.objs.size] [u, Value.ref s.heap.objs.size] (env0_fresh e0 kp (Nat.le_refl _) hs' new) un rfl (fun e s' => hCX outer s H _ _ E e s' un kp rfl) (.cons rx (.cons rfl .nil)) rfl ⟨_, od, hn0, rfl, rfl⟩
  · subst ex eH
    exact hbody A outer s2 _ _ Q E hr' (hsp dd od hdd)
end
end KwX

/-! {**a, **b} of dicts -/
namespace KwX
open PySem PySem.Spec PySem.W PyProof.Rows L2
section
variable {prog : Program} {w : World} {A : Around} {E : Value → Shared → Prop} {s : Shared} {Kk : Type} [DecidableEq Kk] {knd : PySem.KeyKind prog w Kk}
theorem put_pairs {d : Addr} {kvs : List (Kk × Value)} {k : Kk} {key v : Value} {Q : Unit → Shared → Prop} (hkey : knd.is k key = true) (hm : s.heap.DictOf knd d kvs)
    (hQ : ∀ h', h'.DictOf knd d (stored kvs k v) → Heap.SameBut d s.heap h' → Q () { s with heap := h' }) (hsz : kvs.length ≤ sizeLine) :
    wpAny (model prog w) A (dictPut d (knd.hash k) key v) Q E s := by
  obtain ⟨o, es, ep, ho, hc, hd, hk, hp, hn⟩ := hm
  have hes : es.size ≤ sizeLine := by
    have e1 := hp.length
    rw [Array.length_toList] at e1
    omega
  have hidx : (es.findIdx? fun e => knd.is k e.key) = kvs.findIdx? fun kv => decide (kv.1 = k) := by
    rw [← hp.findIdx k]; obtain ⟨l⟩ := es; simp
  unfold dictPut
  refine wpAny_bind (wpAny_dictFind_of hkey ho hd hk ?_)
  cases hi : es.findIdx? fun e => knd.is k e.key with
  | some i =>
    refine wpAny_updateDict ho hd (hQ _ ⟨_, _, ep, Heap.get?_update_self _ ho (Obj.isFreed_of_dict (Obj.data_mapDict hd _)), hc.mapDict _, Obj.data_mapDict hd _, hk.modify _ _, ?_, ?_⟩ (Heap.SameBut.update ..))
    · rw [stored, if_pos (any_of_findIdx_some (hidx ▸ hi))]
      have hl : (es.toList.findIdx? fun e => knd.is k e.key) = some i := by rw [← hi]; obtain ⟨l⟩ := es; simp
      have := hp.modify hn hl v
      obtain ⟨l⟩ := es
      simpa using this
    · rw [stored, if_pos (any_of_findIdx_some (hidx ▸ hi)), keys_map_store]; exact hn
  | none =>
    have hnot : k ∉ kvs.map (·.1) := not_mem_of_findIdx_none (hidx ▸ hi)
    have hany : ¬ (kvs.any fun kv => decide (kv.1 = k)) = true := by
      rw [List.any_eq_true]; rintro ⟨kv, hkv, he⟩
      exact hnot (List.mem_map.mpr ⟨kv, hkv, of_decide_eq_true he⟩)
    refine wpAny_updateDictKeys (hz := hes) ho hd (hQ _ ⟨_, _, ep + 1, Heap.get?_update_self _ ho (Obj.isFreed_of_dict (Obj.data_mapDictKeys hd _)), hc.mapDictKeys _, Obj.data_mapDictKeys hd _, hk.push hkey _, ?_, ?_⟩ (Heap.SameBut.update ..))
    · rw [stored, if_neg hany]
      have := hp.append hkey (knd.hash k) v
      obtain ⟨l⟩ := es
      simpa using this
    · rw [stored, if_neg hany, List.map_append, List.nodup_append]
      refine ⟨hn, by simp, fun a ha b hb => ?_⟩
      obtain rfl := List.mem_singleton.mp (by simpa using hb)
      exact fun e => hnot (e ▸ ha)
/-- one dict's pairs put into another; with unique: none of the keys is there -/
theorem merge_map {d o : Addr} {unique : Bool} {kvs more : List (Kk × Value)} {Q : Unit → Shared → Prop} (hdo : d ≠ o) (hoS : (o == sysModules) = false) (hd : s.heap.DictOf knd d kvs) (ho : s.heap.DictOf knd o more) (hu : unique = true → ((kvs ++ more).map (·.1)).Nodup)
    (hQ : ∀ h', h'.DictOf knd d (merged kvs more) → h'.DictOf knd o more → Heap.SameBut d s.heap h' → Q () { s with heap := h' }) (hsz : kvs.length + more.length ≤ sizeLine) :
    wpAny (model prog w) A (mergeMapping d (.ref o) unique) Q E s := by
  obtain ⟨od, esd, epd, hod, hcd, hdd, hkd, hpd, hnd⟩ := id hd
  obtain ⟨oo, eso, epo, hoo, hco, hdo', hko, hpo, hno⟩ := id ho
  have hlen : more.length = eso.size := by rw [← hpo.length]; simp
  unfold mergeMapping
  refine wpAny_bind (wpAny_isInstance ho.typeIs isSubtype_dict_dict ?_)
  dsimp only
  rw [if_pos rfl]
  refine wpAny_bind (wpAny_specialOf ho.typeIs F.slot_dict_iter.lookup (wpAny_bind (wpAny_pure ?_)))
  simp only [beq_self_eq_true]
  rw [if_neg (by rw [hoS]; exact Bool.false_ne_true)]
  refine wpAny_bind (wpAny_dictEntries hod hdd ?_)
  split
  · refine wpAny_bind (wpAny_dictEntries hoo hdo' ?_)
    refine wpAny_bind (PyProof.Rows.forIn_array_ _ (fun rest _ s' => s' = s ∧ ∀ e ∈ rest, ∀ a, e.key ≠ .ref a) _ (fun x rest b s' ⟨e, hr⟩ => ?_) (fun b s' ⟨e, _⟩ => ?_) eso PUnit.unit ⟨rfl, fun e he a hk => ?_⟩)
    · obtain ⟨k, h1, _⟩ := hko e (by simpa using he)
      rw [hk] at h1
      have := knd.byValue k _ h1
      cases this
    · subst e
      have hx := hr x (.head _)
      split
      · rename_i a ha
        exact absurd ha (hx a)
      · exact wpAny_pure ⟨rfl, fun e he => hr e (.tail _ he)⟩
    · rw [e]
      refine wpAny_bind (wpAny_dictEntries hoo hdo' ?_)
      refine wpAny_bind (wpAny_dictEpoch hoo hdo' ?_)
      refine wpAny_bind ?_
      rw [List.range_eq_range']
      refine wpAny_forIn_list _
        (fun rest _ s' => ∃ h' i, s' = { s with heap := h' } ∧ rest = List.range' i (eso.size - i) ∧ i ≤ eso.size ∧ h'.DictOf knd d (merged kvs (more.take i)) ∧ h'.get? o = some oo ∧ Heap.SameBut d s.heap h')
        _ ?_ ?_ _ _ ⟨s.heap, 0, rfl, by simp, Nat.zero_le _, by simpa [merged] using hd, hoo, Heap.SameBut.refl _ _⟩
      · rintro x rest b s' ⟨h', i, rfl, hr, hi, hd', hoo', hs'⟩
        have hlt : i < eso.size := by
          rcases Nat.lt_or_ge i eso.size with h | h
          · exact h
          · rw [Nat.sub_eq_zero_of_le h] at hr; cases hr
        obtain ⟨rfl, hrest⟩ : x = i ∧ rest = List.range' (i + 1) (eso.size - (i + 1)) := by
          have e : eso.size - i = (eso.size - (i + 1)) + 1 := by omega
          rw [e, List.range'_succ] at hr
          injection hr with h1 h2
          exact ⟨h1, h2⟩
        refine wpAny_bind (wpAny_dictEntries hoo' hdo' ?_)
        rw [Array.getElem?_eq_getElem hlt]
        have hlm : x < more.length := by omega
        obtain ⟨⟨k, v⟩, hkv⟩ : ∃ kv, more[x]? = some kv := ⟨_, List.getElem?_eq_getElem hlm⟩
        obtain ⟨hkey, hval⟩ := hpo.get? (e := eso[x]) (by simp [hlt]) hkv
        obtain ⟨k', hkey', hhash⟩ := hko eso[x] (Array.getElem_mem hlt)
        obtain rfl : k' = k := knd.inj _ _ _ hkey' hkey
        have hmx : (merged kvs (more.take x)).length ≤ sizeLine := by
          have e1 := merged_length_le kvs (more.take x)
          have e2 : (more.take x).length ≤ more.length := by rw [List.length_take]; omega
          omega
        dsimp only
        rw [hhash, hval]
        have put : ∀ R : Unit → Shared → Prop, (∀ h'', h''.DictOf knd d (stored (merged kvs (more.take x)) k' v) → Heap.SameBut d h' h'' → R () { s with heap := h'' }) → wpAny (model prog w) A (dictPut d (knd.hash k') eso[x].key v) R E { s with heap := h' } := fun R hR =>
          put_pairs (s := { s with heap := h' }) hkey hd' hR hmx
        refine wpAny_bind (wpAny_holding ?_)
        have last : ∀ R, (∀ h'', h''.DictOf knd d (stored (merged kvs (more.take x)) k' v) → Heap.SameBut d h' h'' → R () { s with heap := h'' }) → wpAny (model prog w) A (do
            if unique = true then do
              if (← dictFind d eso[x].key (knd.hash k')).isSome = true then do
                rule "dict.merge.duplicate-key"
                raiseNew (← newExc (.type "KeyError") [eso[x].key])
            dictPut d (knd.hash k') eso[x].key v) R E { s with heap := h' } := fun R hR => by
          cases unique with
          | false =>
            dsimp only
            rw [if_neg Bool.false_ne_true]
            exact put R hR
          | true =>
            dsimp only
            rw [if_pos rfl]
            refine wpAny_bind ?_
            have hnone : ((merged kvs (more.take x)).findIdx? fun kv => decide (kv.1 = k')) = none := by
              cases hi : (merged kvs (more.take x)).findIdx? fun kv => decide (kv.1 = k') with
              | none => rfl
              | some i =>
                have hnd := hu rfl
                have hm2 : merged kvs (more.take x) = kvs ++ more.take x := merged_append_of_fresh _ _ (by
                  have : ((kvs ++ more.take x).map (·.1)).Sublist ((kvs ++ more).map (·.1)) := ((List.take_sublist x more).append_left kvs).map _
                  exact hnd.sublist this)
                rw [hm2] at hi
                obtain ⟨kv, h1, h2⟩ := List.any_eq_true.mp (any_of_findIdx_some hi)
                have h2 := of_decide_eq_true h2
                have hkv2 : more[x] = (k', v) := by
                  rw [List.getElem?_eq_getElem hlm] at hkv
                  exact Option.some.inj hkv
                have e : more = more.take x ++ (k', v) :: more.drop (x + 1) := by rw [← hkv2, ← List.drop_eq_getElem_cons hlm, List.take_append_drop]
                rw [e, ← List.append_assoc, List.map_append, List.map_cons, List.nodup_append] at hnd
                exact (hnd.2.2 kv.1 (List.mem_map_of_mem h1) k' List.mem_cons_self h2).elim
            obtain ⟨o2, es2, ep2, ho2, hc2, hd2, hk2, hp2, hn2⟩ := id hd'
            refine wpAny_dictFind_of hkey ho2 hd2 hk2 ?_
            have hidx : (es2.findIdx? fun e => knd.is k' e.key) = none := by
              rw [← hnone, ← hp2.findIdx]; obtain ⟨l⟩ := es2; simp
            rw [hidx]
            exact put R hR
        refine last _ fun h'' hd'' hs'' => ?_
        have hoo'' : h''.get? o = some oo := (hs''.2 o (Ne.symm hdo)).trans hoo'
        refine wpAny_bind (wpAny_dictEpoch hoo'' hdo' ?_)
        rw [if_neg (by simp)]
        exact wpAny_pure ⟨h'', x + 1, rfl, hrest, hlt, by rw [merged_take_succ kvs more x (k', v) hkv]; exact hd'', hoo'', hs'.trans hs''⟩
      · rintro b s' ⟨h', i, rfl, hr, hi, hd', hoo', hs'⟩
        have hin : i = eso.size := by
          rcases Nat.lt_or_ge i eso.size with h | h
          · have e : eso.size - i = (eso.size - (i + 1)) + 1 := by omega
            rw [e, List.range'_succ] at hr; cases hr
          · exact Nat.le_antisymm hi h
        refine wpAny_pure (hQ h' ?_ ⟨oo, eso, epo, hoo', hco, hdo', hko, hpo, hno⟩ hs')
        rw [hin, ← hlen, List.take_length] at hd'
        exact hd'
  · refine wpAny_bind (wpAny_dictEntries hoo hdo' ?_)
    refine wpAny_bind (wpAny_dictEpoch hoo hdo' ?_)
    refine wpAny_bind ?_
    rw [List.range_eq_range']
    refine wpAny_forIn_list _
      (fun rest _ s' => ∃ h' i, s' = { s with heap := h' } ∧ rest = List.range' i (eso.size - i) ∧ i ≤ eso.size ∧ h'.DictOf knd d (merged kvs (more.take i)) ∧ h'.get? o = some oo ∧ Heap.SameBut d s.heap h')
      _ ?_ ?_ _ _ ⟨s.heap, 0, rfl, by simp, Nat.zero_le _, by simpa [merged] using hd, hoo, Heap.SameBut.refl _ _⟩
    · rintro x rest b s' ⟨h', i, rfl, hr, hi, hd', hoo', hs'⟩
      have hlt : i < eso.size := by
        rcases Nat.lt_or_ge i eso.size with h | h
        · exact h
        · rw [Nat.sub_eq_zero_of_le h] at hr; cases hr
      obtain ⟨rfl, hrest⟩ : x = i ∧ rest = List.range' (i + 1) (eso.size - (i + 1)) := by
        have e : eso.size - i = (eso.size - (i + 1)) + 1 := by omega
        rw [e, List.range'_succ] at hr
        injection hr with h1 h2
        exact ⟨h1, h2⟩
      refine wpAny_bind (wpAny_dictEntries hoo' hdo' ?_)
      rw [Array.getElem?_eq_getElem hlt]
      have hlm : x < more.length := by omega
      obtain ⟨⟨k, v⟩, hkv⟩ : ∃ kv, more[x]? = some kv := ⟨_, List.getElem?_eq_getElem hlm⟩
      obtain ⟨hkey, hval⟩ := hpo.get? (e := eso[x]) (by simp [hlt]) hkv
      obtain ⟨k', hkey', hhash⟩ := hko eso[x] (Array.getElem_mem hlt)
      obtain rfl : k' = k := knd.inj _ _ _ hkey' hkey
      have hmx : (merged kvs (more.take x)).length ≤ sizeLine := by
        have e1 := merged_length_le kvs (more.take x)
        have e2 : (more.take x).length ≤ more.length := by rw [List.length_take]; omega
        omega
      dsimp only
      rw [hhash, hval]
      have put : ∀ R : Unit → Shared → Prop, (∀ h'', h''.DictOf knd d (stored (merged kvs (more.take x)) k' v) → Heap.SameBut d h' h'' → R () { s with heap := h'' }) → wpAny (model prog w) A (dictPut d (knd.hash k') eso[x].key v) R E { s with heap := h' } := fun R hR =>
        put_pairs (s := { s with heap := h' }) hkey hd' hR hmx
      refine wpAny_bind (wpAny_holding ?_)
      have last : ∀ R, (∀ h'', h''.DictOf knd d (stored (merged kvs (more.take x)) k' v) → Heap.SameBut d h' h'' → R () { s with heap := h'' }) → wpAny (model prog w) A (do
          if unique = true then do
            if (← dictFind d eso[x].key (knd.hash k')).isSome = true then do
              rule "dict.merge.duplicate-key"
              raiseNew (← newExc (.type "KeyError") [eso[x].key])
          dictPut d (knd.hash k') eso[x].key v) R E { s with heap := h' } := fun R hR => by
        cases unique with
        | false =>
          dsimp only
          rw [if_neg Bool.false_ne_true]
          exact put R hR
        | true =>
          dsimp only
          rw [if_pos rfl]
          refine wpAny_bind ?_
          have hnone : ((merged kvs (more.take x)).findIdx? fun kv => decide (kv.1 = k')) = none := by
            cases hi : (merged kvs (more.take x)).findIdx? fun kv => decide (kv.1 = k') with
            | none => rfl
            | some i =>
              have hnd := hu rfl
              have hm2 : merged kvs (more.take x) = kvs ++ more.take x := merged_append_of_fresh _ _ (by
                have : ((kvs ++ more.take x).map (·.1)).Sublist ((kvs ++ more).map (·.1)) := ((List.take_sublist x more).append_left kvs).map _
                exact hnd.sublist this)
              rw [hm2] at hi
              obtain ⟨kv, h1, h2⟩ := List.any_eq_true.mp (any_of_findIdx_some hi)
              have h2 := of_decide_eq_true h2
              have hkv2 : more[x] = (k', v) := by
                rw [List.getElem?_eq_getElem hlm] at hkv
                exact Option.some.inj hkv
              have e : more = more.take x ++ (k', v) :: more.drop (x + 1) := by rw [← hkv2, ← List.drop_eq_getElem_cons hlm, List.take_append_drop]
              rw [e, ← List.append_assoc, List.map_append, List.map_cons, List.nodup_append] at hnd
              exact (hnd.2.2 kv.1 (List.mem_map_of_mem h1) k' List.mem_cons_self h2).elim
          obtain ⟨o2, es2, ep2, ho2, hc2, hd2, hk2, hp2, hn2⟩ := id hd'
          refine wpAny_dictFind_of hkey ho2 hd2 hk2 ?_
          have hidx : (es2.findIdx? fun e => knd.is k' e.key) = none := by
            rw [← hnone, ← hp2.findIdx]; obtain ⟨l⟩ := es2; simp
          rw [hidx]
          exact put R hR
      refine last _ fun h'' hd'' hs'' => ?_
      have hoo'' : h''.get? o = some oo := (hs''.2 o (Ne.symm hdo)).trans hoo'
      refine wpAny_bind (wpAny_dictEpoch hoo'' hdo' ?_)
      rw [if_neg (by simp)]
      exact wpAny_pure ⟨h'', x + 1, rfl, hrest, hlt, by rw [merged_take_succ kvs more x (k', v) hkv]; exact hd'', hoo'', hs'.trans hs''⟩
    · rintro b s' ⟨h', i, rfl, hr, hi, hd', hoo', hs'⟩
      have hin : i = eso.size := by
        rcases Nat.lt_or_ge i eso.size with h | h
        · have e : eso.size - i = (eso.size - (i + 1)) + 1 := by omega
          rw [e, List.range'_succ] at hr; cases hr
        · exact Nat.le_antisymm hi h
      refine wpAny_pure (hQ h' ?_ ⟨oo, eso, epo, hoo', hco, hdo', hko, hpo, hno⟩ hs')
      rw [hin, ← hlen, List.take_length] at hd'
      exact hd'
end
end KwX

namespace KwX
open PySem PySem.Spec PySem.W PyProof.Rows L2
/-- a dict of the written part: its pairs -/
def WrD (P : Program) (w : World) (K : PySem.W.Frag) (a : Addr) (kvs : List (Key × V)) : Prop :=
  ∃ (es : Array DictEntry) (n : Nat) (kw : List (Key × Value)), K.lookup a = some ⟨.type "dict", none, .dict es n, #[]⟩ ∧ KeysLit w.params es.toList ∧ Pairs (mixKind P w) es.toList kw ∧ KV kvs kw ∧ (kw.map (·.1)).Nodup ∧ (a == sysModules) = false ∧ kvs.length ≤ sizeLine
/-- x is a dict with these pairs -/
def DRd (P : Program) (w : World) (K : PySem.W.Frag) (x : V) (kvs : List (Key × V)) (H : Hp) : Prop := ∃ a, x = .ref a ∧ (Rd H a (.dK kvs) ∨ WrD P w K a kvs)
section
variable {X : Cx} {pins : List (Addr × Obj)} {σ : L2.St} {H : Hp} {s : Shared}
theorem DRd.get {x : V} {kvs : List (Key × V)} (h : DRd X.prog X.w X.K x kvs H) (I : Inv X pins σ H s) : ∃ a kw, x = .ref a ∧ KV kvs kw ∧ s.heap.DictOf (mixKind X.prog X.w) a kw ∧ (a == sysModules) = false ∧ kvs.length ≤ sizeLine := by
  obtain ⟨a, rfl, h | ⟨es, n, kw, hl, hk, hp, rel, nd, low, z⟩⟩ := h
  · obtain ⟨z, hd, vs, rel, dd⟩ := dk_rd I.hok h
    exact ⟨a, vs, rfl, rel, dd, hd, z⟩
  · refine ⟨a, kw, rfl, rel, ⟨_, es, n, I.kIn _ _ hl, ⟨rfl, rfl, rfl⟩, rfl, fun e he => ?_, hp, nd⟩, low, z⟩
    obtain ⟨x, t, e1, e2⟩ := hk.all e (Array.mem_toList_iff.mpr he)
    exact ⟨Sum.inr x, by rw [e1]; exact mixKind_str X.prog X.w x t, e2⟩
/-- {**a, **b} -/
def tMrg (P : Program) (w : World) (K : PySem.W.Frag) (ta tb : TE) : TE := fun σ H Q => ∀ p, H p = none → K.lookup p = none → ta σ (upd H p (.dK [])) fun x H1 => ∃ kvs, DRd P w K x kvs H1 ∧ x ≠ .ref p ∧ H1 p = some (.dK []) ∧
  tb σ (upd H1 p (.dK (mergeK [] kvs))) fun y H2 => ∃ more, H2 p = some (.dK (mergeK [] kvs)) ∧ DRd P w K y more H2 ∧ y ≠ .ref p ∧ (mergeK [] kvs).length + more.length ≤ sizeLine ∧ Q (.ref p) (upd H2 p (.dK (mergeK (mergeK [] kvs) more)))
theorem mrg_step {p : Addr} {kvs0 kvs : List (Key × V)} {x : V} {u : Value} {unique : Bool} {R : Unit → Shared → Prop} {E : Value → Shared → Prop} {A : Around} (I : Inv X pins σ H s) (hp : H p = some (.dK kvs0)) (hd : DRd X.prog X.w X.K x kvs H) (hx : x ≠ .ref p) (rx : RelV x u) (hl : kvs0.length + kvs.length ≤ sizeLine)
    (hu : unique = true → ((kvs0 ++ kvs).map (·.1)).Nodup) (h : ∀ h', Inv X pins σ (upd H p (.dK (mergeK kvs0 kvs))) { s with heap := h' } → R () { s with heap := h' }) : wpAny (model X.prog X.w) A (mergeMapping p u unique) R E s := by
  obtain ⟨a, kw, rfl, rel, dd, low, z⟩ := hd.get I
  obtain rfl : u = .ref a := rx
  obtain ⟨z0, low0, vs0, rel0, dd0⟩ := dk_of I.hok hp
  have hne : p ≠ a := fun e => hx (by rw [e])
  have l0 : kvs0.length = vs0.length := by have := rel0.length; exact this
  have l1 : kvs.length = kw.length := by have := rel.length; exact this
  have keys : ∀ {l : List (Key × V)} {m : List (Key × Value)}, KV l m → m.map (·.1) = l.map (·.1) := by
    intro l m r
    induction r with
    | nil => rfl
    | cons h _ ih => rw [List.map_cons, List.map_cons, ih, h.1]
  refine merge_map (knd := mixKind X.prog X.w) hne low dd0 dd (fun hq => ?_) (fun h' d1 _ sb => h h' ?_) (by omega)
  · rw [List.map_append, keys rel0, keys rel, ← List.map_append]
    exact hu hq
  · have he : ∃ q, h'.get? p = some q := let ⟨q, _, _, hq, _⟩ := d1; ⟨q, hq⟩
    have hz : (mergeK kvs0 kvs).length ≤ sizeLine := by
      have h1 := length_mergeK kvs kvs0
      omega
    exact d_write (t' := s.toks) I (by rw [hp]; exact True.intro) sb he (dk_new hz low0 (rel.merge rel0) d1)
theorem pe_mrg {ea eb : Expr} {ta tb : TE} {pos : Pos} (ha : PE X ea ta) (hb : PE X eb tb) : PE X (.Dict [none, none] [ea, eb] pos) (tMrg X.prog X.w X.K ta tb) := by
  refine ⟨fun pins s σ H Q I q => ?_⟩
  rw [arm_eval_Dict]
  refine wpAny_bind (wpAny_standAt ?_)
  show wpAny _ _ (dictDisplay [(none, do let x ← eval ea X.env; standAt pos; pure x), (none, do let x ← eval eb X.env; standAt pos; pure x)]) _ _ _
  unfold dictDisplay
  simp only [List.forIn_cons, List.forIn_nil, List.isEmpty_nil, if_true, pure_bind, bind_assoc]
  refine wpAny_bind (wpAny_alloc ?_)
  have hn := I.hok.fresh (Nat.le_refl s.heap.objs.size)
  have hK : X.K.lookup s.heap.objs.size = none := by
    cases e : X.K.lookup s.heap.objs.size with
    | none => rfl
    | some o => exact absurd (Heap.lt_size (I.kIn _ _ e)) (Nat.lt_irrefl _)
  have I1 := I.laid (a := s.heap.objs.size) (o := .dK []) (h' := s.heap.push { cls := .type "dict", data := .dict #[] }) (t' := s.toks) (fun _ _ q => Heap.get?_push_of_some _ q) (Nat.le_refl _) (dk_empty s.heap I.big)
  refine wpAny_bind (wpAny_holding (wpAny_bind (thn (ha.run pins _ σ _ _ I1 (q _ hn hK)) fun u s1 ⟨x, H1, I2, rx, kvs, hdr, hne, hp1, q2⟩ => wpAny_bind (wpAny_standAt (wpAny_pure ?_)))))
  have z1 : kvs.length ≤ sizeLine := by obtain ⟨_, _, _, _, _, _, z⟩ := hdr.get I2; exact z
  refine wpAny_bind (wpAny_onRaise (wpAny_tryCatch (wpAny_onRaise (wpAny_holding (mrg_step I2 hp1 hdr hne rx (by simpa using z1) (fun z => nomatch z) fun h1 I3 => ?_)))))
  refine wpAny_bind (wpAny_holding (wpAny_bind (thn (hb.run pins _ σ _ _ I3 q2) fun u2 s2 ⟨y, H2, I4, ry, more, hp2, hdr2, hne2, hl2, q3⟩ => wpAny_bind (wpAny_standAt (wpAny_pure ?_)))))
  refine wpAny_bind (wpAny_onRaise (wpAny_tryCatch (wpAny_onRaise (wpAny_holding (mrg_step I4 hp2 hdr2 hne2 ry hl2 (fun z => nomatch z) fun h2 I5 => ?_)))))
  exact wpAny_pure ⟨.ref s.heap.objs.size, _, I5, rfl, q3⟩
end
end KwX

/-! C(k = v, ..) of a class whose __init__ takes **kw -/
namespace KwX
open PySem PySem.Spec PySem.W PyProof.Rows L2
theorem kv_zip : ∀ {ks : List Str} {zs : List V} {ws : List Value}, Vals zs ws → KV (ks.zip zs) (ks.zip ws)
  | [], _, _, _ => .nil
  | _ :: _, _, _, .nil => .nil
  | k :: ks, _, _, .cons h t => .cons ⟨rfl, h⟩ (kv_zip t)
theorem zip_keys : ∀ {ks : List Str} {zs : List V}, zs.length = ks.length → (ks.zip zs).map (·.1) = ks
  | [], _, _ => rfl
  | k :: ks, [], h => by cases h
  | k :: ks, z :: zs, h => by
    rw [List.zip_cons_cons, List.map_cons, zip_keys (by simpa using h)]
/-- a new instance x, its dict dx, the keywords' dict dd -/
def MkKw (C : Addr) (sp : Sp) (E : XK) (kvs : List (Str × V)) (H : Hp) (Q : VK) : Prop := ∀ x dx, H x = none → H dx = none → dx ≠ x → ∀ dd od, upd (upd H dx (.own x)) x (.ins C dx []) dd = none →
  sp [.ref x, .ref dd] (upd (upd (upd H dx (.own x)) x (.ins C dx [])) dd (.frz od (.dK (kwK kvs)))) (fun v H3 => v = .non ∧ Q (.ref x) H3) E
section
variable {X : Cx} {CX : CXT} {k : Nat} {f C : Addr} {pn : Str} {ks : List Str} {sp : Sp} {E : XK} {x : Str} {p pos : Pos} {kws : List Keyword} {tk : TA}
theorem run_makeKw {pins : List (Addr × Obj)} {σ : L2.St} {H : Hp} {s : Shared} {Q : VK} {kw : List (Str × Value)} {kvs : List (Str × V)} (M : Mk X.K C f) (F : FnKw X.prog X.w X.K X.mg X.base CX k f pn sp) (hr : Room (k + 1) X.A) (hx : Passes CX X E)
    (I : Inv X pins σ H s) (rk : KV kvs kw) (nd : (kvs.map (·.1)).Nodup) (hp : ∀ y ∈ kvs, y.1 ≠ pn) (hl : kvs.length ≤ sizeLine) (h : MkKw C sp E kvs H Q) :
    wpAny (model X.prog X.w) X.A (call (.ref C) [] kw) (EP X pins σ Q) X.xe s := by
  have hq := h (s.heap.objs.size + 1) s.heap.objs.size (I.hok.fresh (Nat.le_succ _)) (I.hok.fresh (Nat.le_refl _)) (Nat.ne_of_lt (Nat.lt_succ_self _))
  have I2 := Inv.made (C := C) I
  refine wpAny_call (make_map (f := f) I.kIn M.makes M.init (beq_iff_eq.mp M.fn) (codeAny_mono (F _ X.stack _ _ (Value.ref (s.heap.objs.size + 1)) kw (V.ref (s.heap.objs.size + 1)) kvs _ E (hr.make C [] kw)
    (I2.env0.make C [] kw) rfl rk nd hp hl hq) fun r s' hq' => ?_))
  cases r with
  | error e => exact hx pins σ _ _ e s' I2 hq'
  | ok fl =>
    cases fl with
    | ret u =>
      obtain ⟨v, H', I3, rv, ev, q3⟩ := I2.after hq'
      subst ev
      exact ⟨rv, ⟨V.ref (s.heap.objs.size + 1), H', I3, rfl, q3⟩⟩
    | next => exact False.elim hq'
    | brk => exact False.elim hq'
    | cont => exact False.elim hq'
def tMakeKw (C : Addr) (ks : List Str) (sp : Sp) (E : XK) (tk : TA) : TE := fun σ H Q => tk σ H fun zs H2 => zs.length = ks.length ∧ MkKw C sp E (ks.zip zs) H2 Q
theorem pe_makeKw (M : Mk X.K C f) (F : FnKw X.prog X.w X.K X.mg X.base CX k f pn sp) (hr : Room (k + 1) X.A) (hg : Gl X x) (hm : X.mg x = some (.ref C)) (hx : Passes CX X E) (hkw : PK X kws tk) (nd : ks.Nodup) (hp : ∀ y ∈ ks, y ≠ pn) (hl : ks.length ≤ sizeLine)
    (hall : (backToKw pos (keywordEach kws X.env)).all (·.1.isSome) = true := by rfl) (hks : (backToKw pos (keywordEach kws X.env)).filterMap (·.1) = ks := by rfl) (hdb : (x == ("__debug__" : Str)) = false := by decide)
    (hpl : ((backTo pos (starEach [] X.env)).any (·.1) || (backToKw pos (keywordEach kws X.env)).any (·.1.isNone)) = false := by rfl) :
    PE X (.Call (.Name x p) [] kws pos) (tMakeKw C ks sp E tk) := by
  refine ⟨fun pins s σ H Q I h => ?_⟩
  refine wpAny_Call_Name_kw (ld_glob I hg hm ?_ hdb)
  refine PySem.W.callWith_KW0 (h₀ := X.base) I.ok.mod.kin M.kp hall ?_ hpl
  refine thn (hkw.run pos pins s σ H _ I h) fun ws s2 ⟨zs, H2, I2, rz, l2, q2⟩ => ⟨I2.kIn, ?_⟩
  rw [hks]
  have ez := zip_keys (ks := ks) (zs := zs) l2
  refine run_makeKw M F hr hx I2 (kv_zip rz) (by rw [ez]; exact nd) (fun y hy => hp _ (by rw [← ez]; exact List.mem_map_of_mem hy)) ?_ q2
  rw [List.length_zip]
  omega
end
end KwX
namespace KwX
open PySem PySem.Spec PySem.W PyProof.Rows L2
/-- o.m(k = v, ..) of a method def m(self, **kw) -/
def tMethKw (C : Addr) (m : Str) (ks : List Str) (sp : Sp) (E : XK) (ta : TE) (tk : TA) : TE := fun σ H Q => ta σ H fun x H1 => ∃ a dx fs, x = .ref a ∧ H1 a = some (.ins C dx fs) ∧ fs.lookup m = none ∧
  tk σ H1 fun zs H2 => zs.length = ks.length ∧ ∀ dd od, H2 dd = none → sp [x, .ref dd] (upd H2 dd (.frz od (.dK (kwK (ks.zip zs))))) Q E
section
variable {X : Cx} {CX : CXT} {k : Nat} {f C : Addr} {pn m : Str} {ks : List Str} {sp : Sp} {E : XK} {apos pos : Pos} {o : Expr} {kws : List Keyword} {ta : TE} {tk : TA}
theorem run_fnKw {pins : List (Addr × Obj)} {σ : L2.St} {H : Hp} {s : Shared} {Q : VK} {u : Value} {x : V} {kw : List (Str × Value)} {kvs : List (Str × V)} (F : FnKw X.prog X.w X.K X.mg X.base CX k f pn sp) (hr : Room k X.A) (hx : Passes CX X E)
    (I : Inv X pins σ H s) (rx : RelV x u) (rk : KV kvs kw) (nd : (kvs.map (·.1)).Nodup) (hp : ∀ y ∈ kvs, y.1 ≠ pn) (hl : kvs.length ≤ sizeLine) (h : ∀ dd od, H dd = none → sp [x, .ref dd] (upd H dd (.frz od (.dK (kwK kvs)))) Q E) :
    wpAny (model X.prog X.w) X.A (call (.ref f) [u] kw) (EP X pins σ Q) X.xe s := by
  refine wpAny_call (codeAny_mono (F X.A X.stack s H u kw x kvs Q E hr I.env0 rx rk nd hp hl h) fun r s' hq => ?_)
  cases r with
  | error e => exact hx pins σ H s e s' I hq
  | ok fl =>
    cases fl with
    | ret u => exact I.after hq
    | next => exact False.elim hq
    | brk => exact False.elim hq
    | cont => exact False.elim hq
theorem pe_methKw {pl : Sem Bool} (he : PE X o ta) (c : Cls X.K C) (hm : Meth X.K C m f) (F : FnKw X.prog X.w X.K X.mg X.base CX k f pn sp) (hr : Room k X.A) (hx : Passes CX X E) (hkw : PK X kws tk) (nd : ks.Nodup) (hp : ∀ y ∈ ks, y ≠ pn) (hl : ks.length ≤ sizeLine)
    (hall : (backToKw pos (keywordEach kws X.env)).all (·.1.isSome) = true := by rfl) (hks : (backToKw pos (keywordEach kws X.env)).filterMap (·.1) = ks := by rfl)
    (hpl : ((backTo pos (starEach [] X.env)).any (·.1) || (backToKw pos (keywordEach kws X.env)).any (·.1.isNone)) = false := by rfl)
    (ht : eval (.Call (.Attribute o m apos) [] kws pos) X.env = (do
      let ov ← eval o X.env
      standAt apos.atName
      let (f, first) ← holding [ov] (getMethod ov m pl)
      callWith pos f first (backTo pos (starEach [] X.env)) (backToKw pos (keywordEach kws X.env))) := by rfl) :
    PE X (.Call (.Attribute o m apos) [] kws pos) (tMethKw C m ks sp E ta tk) := by
  refine ⟨fun pins s σ H Q I h => ?_⟩
  refine PySem.W.methodCall_KW (pl := pl) (thn (he.run pins s σ H _ I h) fun u s1 ⟨x, H1, I1, rx, a, dx, fs, ex, ea, l, q⟩ => ?_) ht
  subst ex
  obtain rfl : u = Value.ref a := rx
  refine getmeth_ok I1 ea c hm l ?_
  refine PySem.W.callWith_KW0 (first := [.ref a]) (h₀ := X.base) I.ok.mod.kin hm.kp hall ?_ hpl
  refine thn (hkw.run pos pins s1 σ H1 _ I1 q) fun ws s2 ⟨zs, H2, I2, rz, l2, q2⟩ => ⟨I2.kIn, ?_⟩
  rw [hks]
  have ez := zip_keys (ks := ks) (zs := zs) l2
  refine run_fnKw (x := .ref a) F hr hx I2 rfl (kv_zip rz) (by rw [ez]; exact nd) (fun y hy => hp _ (by rw [← ez]; exact List.mem_map_of_mem hy)) ?_ q2
  rw [List.length_zip]
  omega
end
end KwX

/-! C(**d) -/
namespace KwX
open PySem PySem.Spec PySem.W PyProof.Rows L2
theorem mergeK_fresh : ∀ (more acc : List (Key × V)), ((acc ++ more).map (·.1)).Nodup → mergeK acc more = acc ++ more
  | [], acc, _ => by show acc = acc ++ []; rw [List.append_nil]
  | (k, v) :: more, acc, h => by
    have hk : ¬ (acc.any fun kv => decide (kv.1 = k)) = true := by
      rw [List.any_eq_true]
      rintro ⟨y, hy, he⟩
      rw [List.map_append, List.map_cons, List.nodup_append] at h
      exact h.2.2 y.1 (List.mem_map_of_mem hy) k List.mem_cons_self (of_decide_eq_true he)
    have e : putK acc k v = acc ++ [(k, v)] := by
      unfold putK
      rw [if_neg hk]
    show mergeK (putK acc k v) more = _
    rw [e, mergeK_fresh more (acc ++ [(k, v)]) (by rw [List.append_assoc]; exact h), List.append_assoc]
    rfl
theorem mergeK_nil {more : List (Key × V)} (h : (more.map (·.1)).Nodup) : mergeK [] more = more := mergeK_fresh more [] (by simpa using h)
theorem kwKV_nodup {kvs : List (Str × V)} (h : (kvs.map (·.1)).Nodup) : ((kwK kvs).map (·.1)).Nodup := by
  unfold kwK
  rw [List.map_map]
  have : (kvs.map (·.1)).map (Sum.inr (α := Int)) = kvs.map ((fun x => x.1) ∘ fun x : Str × V => ((Sum.inr x.1 : Key), x.2)) := by rw [List.map_map]; rfl
  rw [← this]
  refine List.Pairwise.map _ ?_ h
  intro a b hab e
  exact hab (Sum.inr.inj e)
/-- text keys all through -/
theorem kv_unK : ∀ {kvs : List (Str × V)} {vs : List (Key × Value)}, KV (kwK kvs) vs → ∃ kw : List (Str × Value), vs = kwK kw ∧ KV kvs kw
  | [], _, .nil => ⟨[], rfl, .nil⟩
  | (k, v) :: kvs, _, .cons (b := b) h t => by
    obtain ⟨kw, e, r⟩ := kv_unK (kvs := kvs) t
    obtain ⟨b1, b2⟩ := b
    obtain ⟨h1, h2⟩ := h
    have h1 : Sum.inr k = b1 := h1
    subst h1
    exact ⟨(k, b2) :: kw, by rw [e]; rfl, .cons ⟨rfl, h2⟩ r⟩
section
variable {P : Program} {w : World} {A : Around} {E : Value → Shared → Prop} {s : Shared}
theorem kw_loop (f : DictEntry → List (Str × Value) → Sem (ForInStep (List (Str × Value)))) (hf : ∀ (h : Int) (x : Str) (t : Tok) (v : Value) (b : List (Str × Value)), f ⟨h, .str x t, v⟩ b = pure (.yield (b ++ [(x, v)]))) :
    ∀ (es : List DictEntry) (kw acc : List (Str × Value)), Pairs (mixKind P w) es (kwK kw) → forIn es acc f = pure (acc ++ kw)
  | [], [], acc, _ => by rw [List.forIn_nil, List.append_nil]
  | e :: es, (k, v) :: kw, acc, h => by
    cases h with
    | cons h1 h2 h3 =>
      obtain ⟨hh, key, val⟩ := e
      have hk : ∃ t, key = .str k t := by
        rcases keyIs_shape (show keyIs (Sum.inr k) key = true from h1) with ⟨i, t, e, _⟩ | ⟨x, t, e, e2⟩
        · cases e
        · cases e
          exact ⟨t, e2⟩
      obtain ⟨t, rfl⟩ := hk
      have h2 : val = v := h2
      subst h2
      rw [List.forIn_cons, hf]
      have := kw_loop f hf es kw (acc ++ [(k, val)]) h3
      rw [List.append_assoc] at this
      exact this
end
section
variable {M : Model} {A : Around} {E : Value → Shared → Prop} {s : Shared} {K : Frag}
/-- a call with ** alone -/
theorem callWith_SS {f : Value} {pos : Pos} {x : Sem Value} {Q : Value → Shared → Prop} (hk : keepIn K f = true) (h : wpAny M A (evalArgs f true [] [(none, x)]) (fun a s₁ => K.In s₁.heap ∧ wpAny M A (call f ([] ++ a.pos) a.kw) Q E s₁) E s) : wpAny M A (callWith pos f [] [] [(none, x)]) Q E s := by
  unfold callWith
  refine wpAny_bind (wpAny_holding (wpAny_mono h (fun a s₁ h₁ => wpAny_bind (wpAny_standAt ?_)) fun _ _ x => x))
  obtain ⟨k, hk', L⟩ := keeps_K (M := M) hk _ h₁.1
  refine wpAny_bind (L.here ?_)
  have tail : ∀ {t : Sem Value}, wpAny M A t Q E s₁ → wpAny M A (t >>= fun r => holding [r] point >>= fun _ => pure r) Q E s₁ :=
    fun ht => wpAny_bind (wpAny_mono ht (fun r s₂ hr => wpAny_bind (wpAny_holding (wpAny_point (wpAny_pure hr)))) fun _ _ x => x)
  have marked (mk : Value) : wpAny M A (callMarked mk f ([] ++ a.pos) a.kw) Q E s₁ := by unfold callMarked; exact Calls.wpAny_keep h₁.2
  rcases hk' with rfl | rfl | rfl <;> dsimp only [List.any_nil, List.any_cons, Option.isNone_none, Bool.true_or, Bool.false_or] <;> first | exact tail (marked _) | exact tail (wpAny_operating h₁.2)
end
def tMakeDs (P : Program) (w : World) (K : Frag) (C : Addr) (pn : Str) (sp : Sp) (E : XK) (ta : TE) : TE := fun σ H Q => ∀ p, H p = none → ta σ (upd H p (.dK [])) fun x H1 => ∃ kvs : List (Str × V), H1 p = some (.dK []) ∧ DRd P w K x (kwK kvs) H1 ∧ x ≠ .ref p ∧ (kvs.map (·.1)).Nodup ∧ (∀ y ∈ kvs, y.1 ≠ pn) ∧
  MkKw C sp E kvs (upd H1 p (.dK (kwK kvs))) Q
section
variable {X : Cx} {CX : CXT} {k : Nat} {f C : Addr} {pn : Str} {sp : Sp} {E : XK} {x : Str} {p pos kpos : Pos} {e : Expr} {te : TE}
theorem pe_makeDs (M : Mk X.K C f) (F : FnKw X.prog X.w X.K X.mg X.base CX k f pn sp) (hr : Room (k + 1) X.A) (hg : Gl X x) (hm : X.mg x = some (.ref C)) (hx : Passes CX X E) (he : PE X e te) (hdb : (x == ("__debug__" : Str)) = false := by decide) :
    PE X (.Call (.Name x p) [] [⟨none, e, kpos⟩] pos) (tMakeDs X.prog X.w X.K C pn sp E te) := by
  refine ⟨fun pins s σ H Q I q => ?_⟩
  refine wpAny_Call_Name_kw (ld_glob I hg hm ?_ hdb)
  show wpAny _ _ (callWith pos (.ref C) [] [] [(none, do let v ← eval e X.env; standAt pos; pure v)]) _ _ _
  refine callWith_SS M.kp ?_
  unfold evalArgs
  dsimp only
  rw [show (spliced [] : Sem (List Value)) = pure [] from rfl]
  refine wpAny_bind (wpAny_pure (wpAny_bind (wpAny_pure ?_)))
  dsimp only
  refine wpAny_holding ?_
  rw [if_neg (by simp)]
  refine wpAny_bind ?_
  unfold mergedKeywords
  refine wpAny_bind (wpAny_alloc ?_)
  refine wpAny_bind (wpAny_holding ?_)
  dsimp -failIfUnchanged only
  refine wpAny_bind ?_
  rw [List.forIn_cons]
  refine wpAny_bind ?_
  dsimp -failIfUnchanged only
  rw [if_pos List.isEmpty_nil]
  refine wpAny_bind (wpAny_pure ?_)
  have hn := I.hok.fresh (Nat.le_refl s.heap.objs.size)
  have I1 := I.laid (a := s.heap.objs.size) (o := .dK []) (h' := s.heap.push { cls := .type "dict", data := .dict #[] }) (t' := s.toks) (fun _ _ q => Heap.get?_push_of_some _ q) (Nat.le_refl _) (dk_empty s.heap I.big)
  refine wpAny_bind (wpAny_bind (thn (he.run pins _ σ _ _ I1 (q _ hn)) fun u s1 ⟨y, H1, I2, ry, kvs, hp1, hdr, hne, nd, hpn, q2⟩ => wpAny_bind (wpAny_standAt (wpAny_pure ?_))))
  have z1 : (kwK kvs).length ≤ sizeLine := by obtain ⟨_, _, _, _, _, _, z⟩ := hdr.get I2; exact z
  have ndK := kwKV_nodup nd
  refine wpAny_bind (wpAny_onRaise (wpAny_holding (wpAny_tryCatch (wpAny_onRaise (mrg_step I2 hp1 hdr hne ry (by simpa using z1) (fun _ => by simpa using ndK) fun h1 I3 => ?_)))))
  rw [mergeK_nil ndK] at I3
  refine wpAny_pure ?_
  dsimp -failIfUnchanged only
  rw [List.forIn_nil]
  refine wpAny_pure ?_
  dsimp -failIfUnchanged only
  rw [if_pos List.isEmpty_nil]
  refine wpAny_pure (wpAny_pure (wpAny_bind (wpAny_pure (wpAny_bind (wpAny_holding ?_)))))
  obtain ⟨_, _, vs, rel, dd⟩ := dk_of I3.hok upd_same
  obtain ⟨kw, rfl, rk⟩ := kv_unK rel
  obtain ⟨od, es, ep, hod, hcd, hdd, hkd, hpd, hnd⟩ := dd
  unfold keywordsIn
  refine wpAny_bind (wpAny_dictEntries hod hdd ?_)
  rw [← Array.forIn_toList, kw_loop _ (fun h x t v b => rfl) es.toList kw [] hpd]
  refine wpAny_bind (wpAny_pure (wpAny_pure (wpAny_pure ⟨I3.kIn, ?_⟩)))
  exact run_makeKw M F hr hx I3 rk nd hpn (by unfold kwK at z1; rw [List.length_map] at z1; exact z1) q2
end
end KwX

/-! in, not in and d[k] of dicts, written ones too -/
namespace KwX
open PySem PySem.Spec PySem.W PyProof.Rows L2
def rInDR (P : Program) (w : World) (K : Frag) (neg : Bool) : R2 := fun x y H Q => ∃ (kvs : List (Key × V)) (k : Key), x = kV k ∧ DRd P w K y kvs H ∧ Q (.bl (if neg then !(valV kvs k).isSome else (valV kvs k).isSome)) H
def rIxDR (P : Program) (w : World) (K : Frag) : R2 := fun x y H Q => ∃ (kvs : List (Key × V)) (k : Key) (v : V), DRd P w K x kvs H ∧ y = kV k ∧ valV kvs k = some v ∧ Q v H
section
variable {X : Cx}
theorem op_inDR : OpR X (compareOp .In) (rInDR X.prog X.w X.K false) := by
  intro pins s σ H x y v u Q I rx ry ⟨kvs, k, ex, hd, q⟩
  subst ex
  obtain ⟨a, kw, rfl, rel, dd, low, z⟩ := hd.get I
  obtain rfl : u = .ref a := ry
  refine wpAny_in_of (kV_is rx) low dd.mapOf ?_
  have hv : RelO (valV kvs k) (valueAt kw k) := rel.val k
  have e : (valueAt kw k).isSome = (valV kvs k).isSome := by
    revert hv
    cases valV kvs k <;> cases valueAt kw k <;> intro hv <;> first | rfl | exact hv.elim
  rw [e]
  exact ⟨.bl (valV kvs k).isSome, H, I.tok _, rfl, q⟩
theorem op_ninDR : OpR X (compareOp .NotIn) (rInDR X.prog X.w X.K true) := by
  intro pins s σ H x y v u Q I rx ry ⟨kvs, k, ex, hd, q⟩
  subst ex
  obtain ⟨a, kw, rfl, rel, dd, low, z⟩ := hd.get I
  obtain rfl : u = .ref a := ry
  refine wpAny_notIn_of (kV_is rx) low dd.mapOf ?_
  have hv : RelO (valV kvs k) (valueAt kw k) := rel.val k
  have e : (valueAt kw k).isSome = (valV kvs k).isSome := by
    revert hv
    cases valV kvs k <;> cases valueAt kw k <;> intro hv <;> first | rfl | exact hv.elim
  rw [e]
  exact ⟨.bl (!(valV kvs k).isSome), H, I.tok _, rfl, q⟩
theorem ix_DR : IxR X (rIxDR X.prog X.w X.K) := by
  intro value slice pins s σ H x y v u Q I rx ry ⟨kvs, k, r, hd, ey, hv, q⟩ hs
  subst ey
  obtain ⟨a, kw, rfl, rel, dd, low, z⟩ := hd.get I
  obtain rfl : v = .ref a := rx
  obtain ⟨w', hw, rw'⟩ := RelO.some_of (v := r) (o := valueAt kw k) (by rw [← hv]; exact rel.val k)
  exact tail_any dd.typeIs slot_dict_getitem.lookup (wpAny_getItem_of (kV_is ry) dd.mapOf hw ⟨r, H, I.tok _, rw', q⟩) hs
end
end KwX

/-! instances and dicts as data -/
namespace DL
open PySem PySem.Spec PyProof.Rows L2 KwX
theorem val_lookup {fs : List (Str × V)} {f : Str} : valV (fs.map fun x => ((Sum.inr x.1 : Key), x.2)) (Sum.inr f) = fs.lookup f := by
  induction fs with
  | nil => rfl
  | cons p fs ih =>
    obtain ⟨n, v⟩ := p
    rw [List.map_cons, List.lookup_cons]
    by_cases h : n = f
    · subst h
      rw [valV_pos rfl]
      simp
    · rw [valV_neg (by intro e; exact h (Sum.inr.inj e)), ih]
      have : (f == n) = false := by simpa using fun e : f = n => h e.symm
      rw [this]
section
variable {K : PySem.W.Frag} {P : Program} {w : World} {s s1 s2 : S} {te ta tb : TE} {d : D}
/-- e.f of an instance -/
theorem ev_fld {C : Addr} {ds : List (D × D)} {f : Str} (h : Ev K te s (objD C ds) s1) (c : Cls K C) (n : NoAttr K C f) (hd : dlook ds (Sum.inr f) = some d) : Ev K (tFld K te f) s d s1 := fun σ H F fp E Q q =>
  h σ H F fp E _ fun v H1 F1 fp1 E1 st1 a1 => by
    generalize e : objD C ds = y at a1
    cases a1 with
    | @obj a dx C' fs ds' h1 h2 t =>
      have z := PyData.dict.inj e
      have z := (Prod.mk.inj (List.cons.inj z).1).2
      have z := PyData.tuple.inj z
      have z1 := PyData.int.inj (List.cons.inj z).1
      have z2 := PyData.dict.inj (List.cons.inj (List.cons.inj z).2).1
      have z1 : C = C' := Int.ofNat.inj z1
      subst z1 z2
      obtain ⟨u, w1, w2⟩ := t.look.1 d hd
      rw [val_lookup] at w1
      exact ⟨a, C, dx, fs, u, rfl, E1.ex _ _ h1, c, n, w1, q u H1 F1 fp1 E1 st1 w2⟩
    | dic h1 t =>
      unfold objD at e
      cases t with
      | nil => cases e
      | @cons k v kvs d' ds' a b => cases k <;> cases e
    | scr h1 => cases e
    | _ => cases e
/-- x in d, x not in d, of a written dict -/
theorem ev_inW {a : Addr} {kvs : List (Key × V)} {k : Key} {neg : Bool} (hW : WrD P w K a kvs) (hx : Ev K ta s (keyD k) s1) : Ev K (tOp (rInDR P w K neg) ta (tC (.ref a))) s (.bool (if neg = true then !(valV kvs k).isSome else (valV kvs k).isSome)) s1 := fun σ H F fp E Q q =>
  hx σ H F fp E _ fun v H1 F1 fp1 E1 st1 a1 => ⟨kvs, k, at_key a1, ⟨a, rfl, .inr hW⟩, q _ H1 F1 fp1 E1 st1 (.bl _)⟩
/-- d[k] of a written dict -/
theorem ev_ixW {a : Addr} {kvs : List (Key × V)} {k : Key} {v : V} (hW : WrD P w K a kvs) (hb : Ev K tb s (keyD k) s1) (hv : valV kvs k = some v) (hat : ∀ F, At K F v d) : Ev K (tOp (rIxDR P w K) (tC (.ref a)) tb) s d s1 := fun σ H F fp E Q q =>
  hb σ H F fp E _ fun u H1 F1 fp1 E1 st1 a1 => ⟨kvs, k, v, ⟨a, rfl, .inr hW⟩, at_key a1, hv, q v H1 F1 fp1 E1 st1 (hat F1)⟩
/-- d[k], d data -/
theorem ev_ixD {ds : List (D × D)} {k : Key} (ha : Ev K ta s (.dict ds) s1) (hb : Ev K tb s1 (keyD k) s2) (h : dlook ds k = some d) (hz : ds.length ≤ sizeLine) : Ev K (tOp (rIxDR P w K) ta tb) s d s2 := fun σ H F fp e Q q =>
  ha σ H F fp e _ fun v H1 F1 fp1 e1 st1 a1 => hb σ H1 F1 fp1 e1 _ fun w' H2 F2 fp2 e2 st2 a2 => by
    have ek := at_key a2
    cases a1 with
    | dic h1 h2 =>
      obtain ⟨u, w1, w2⟩ := h2.look.1 d h
      exact ⟨_, k, u, ⟨_, rfl, .inl (.inl (e2.ex _ _ (st2.ex _ _ h1)))⟩, ek, w1, q u H2 F2 fp2 e2 (st1.trans st2) (w2.ex st2.ex)⟩
    | scr h1 => cases k <;> cases h
    | obj h1 h3 h2 => cases k <;> cases h
    | zic h1 h2 => cases k <;> cases h
/-! ### frozen dicts -/
theorem frz_at {F : Hp} {v : V} {ds : List (D × D)} (h : At K F v (frzD ds)) : ∃ a o kvs, v = .ref a ∧ F a = some (.frz o (.dK kvs)) ∧ AtKV K F kvs ds := by
  generalize e : frzD ds = y at h
  cases h with
  | @zic a o kvs ds' h1 t =>
    have z := (Prod.mk.inj (List.cons.inj (PyData.dict.inj e)).1).2
    have z := PyData.dict.inj z
    subst z
    exact ⟨a, o, kvs, rfl, h1, t⟩
  | dic h1 t =>
    unfold frzD at e
    cases t with
    | nil => cases e
    | @cons k v kvs d' ds' a b => cases k <;> cases e
  | scr h1 => cases e
  | obj h1 h2 t => cases e
  | _ => cases e
theorem atKV_keys {F : Hp} : ∀ {kvs : List (Key × V)} {ds : List (D × D)}, AtKV K F kvs ds → ds.map (·.1) = kvs.map fun p => keyD p.1
  | _, _, .nil => rfl
  | _, _, .cons _ t => by rw [List.map_cons, List.map_cons, atKV_keys t]
/-- for k in d -/
theorem it_keys {ds : List (D × D)} (h : Ev K te s (frzD ds) s1) : IterD K (iKeys te) s (ds.map (·.1)) s1 := fun σ H F fp e R r =>
  h σ H F fp e _ fun v H1 F1 fp1 e1 st1 a1 => by
    obtain ⟨a, o, kvs, rfl, h1, t⟩ := frz_at a1
    have hk := atKV_keys t
    refine ⟨a, o, rfl, .inl ⟨kvs, e1.ex _ _ h1, r _ H1 F1 fp1 e1 st1 fun F' H' i hF hH => ⟨fun d hd => ?_, fun hi => ?_⟩⟩⟩
    · rw [hk, List.getElem?_map] at hd
      have hl : i < kvs.length := by
        by_cases c : i < kvs.length
        · exact c
        · rw [List.getElem?_eq_none (by omega)] at hd; cases hd
      rw [List.getElem?_eq_getElem hl] at hd
      cases hd
      refine ⟨⟨hH _ _ (hF _ _ h1), hl⟩, fun y H2 hy => ?_⟩
      obtain ⟨rfl, k, v, e2, rfl⟩ := hy
      rw [List.getElem?_eq_getElem hl] at e2
      have e3 : kvs[i] = (k, v) := Option.some.inj e2
      rw [e3]
      refine ⟨F', Grow.refl hH, ?_⟩
      cases k <;> constructor
    · rw [hk, List.length_map] at hi
      exact ⟨hH _ _ (hF _ _ h1), Nat.le_of_eq hi.symm⟩
end
end DL

/-! a datum that is a dict, told as DRd -/
namespace DL
open PySem PySem.Spec PyProof.Rows L2 KwX
/-- a datum that is a dict: its pairs -/
inductive IsDict : D → List (D × D) → Prop
  | pl (ds : List (D × D)) (h : ∀ d, ds.head? = some d → ∀ b, d.1 ≠ .bool b) (h1 : ∀ d, ds.head? = some d → d.1 ≠ .none) : IsDict (.dict ds) ds
  | fr (ds : List (D × D)) : IsDict (frzD ds) ds
section
variable {K : PySem.W.Frag} {P : Program} {w : World} {s s1 s2 : S} {ta tb : TE} {F H : Hp}
theorem at_dr {v : V} {d : D} {ds : List (D × D)} (h : At K F v d) (i : IsDict d ds) (e : Ex F H) : ∃ kvs, DRd P w K v kvs H ∧ AtKV K F kvs ds := by
  cases i with
  | fr ds =>
    obtain ⟨a, o, kvs, rfl, h1, t⟩ := frz_at h
    exact ⟨kvs, ⟨a, rfl, .inl (.inr ⟨o, e _ _ h1⟩)⟩, t⟩
  | pl ds n1 n2 =>
    cases h with
    | dic h1 t => exact ⟨_, ⟨_, rfl, .inl (.inl (e _ _ h1))⟩, t⟩
    | scr h1 => exact absurd rfl (n2 _ rfl)
    | obj h1 h2 t => exact absurd rfl (n1 _ rfl true)
    | zic h1 t => exact absurd rfl (n1 _ rfl false)
/-- k in d, k not in d -/
theorem ev_inD {d : D} {ds : List (D × D)} {k : Key} {neg : Bool} (ha : Ev K ta s (keyD k) s1) (hb : Ev K tb s1 d s2) (i : IsDict d ds) : Ev K (tOp (rInDR P w K neg) ta tb) s (.bool (if neg = true then !(dlook ds k).isSome else (dlook ds k).isSome)) s2 := fun σ H F fp E Q q =>
  ha σ H F fp E _ fun v H1 F1 fp1 E1 st1 a1 => hb σ H1 F1 fp1 E1 _ fun u H2 F2 fp2 E2 st2 a2 => by
    obtain ⟨kvs, hd, t⟩ := at_dr (P := P) (w := w) a2 i E2.ex
    refine ⟨kvs, k, at_key a1, hd, ?_⟩
    have e : (valV kvs k).isSome = (dlook ds k).isSome := by
      cases h : dlook ds k with
      | none => rw [t.look.2 h]; rfl
      | some x =>
        obtain ⟨y, h1, _⟩ := t.look.1 x h
        rw [h1]; rfl
    rw [e]
    exact q _ H2 F2 fp2 E2 (st1.trans st2) (.bl _)
end
end DL

/-! {**a, **b} as data -/
namespace DL
open PySem PySem.Spec PyProof.Rows L2 KwX
section
variable {K : PySem.W.Frag} {P : Program} {w : World} {s s1 s2 : S} {ta tb : TE} {F F1 H H1 : Hp} {fp fp1 : Fp} {σ : L2.St} {p : Addr} {u o : HO}
/-- a thing at p that nobody else knows is written -/
theorem lone_env (e1 : EnvW K σ s H1 F1 fp1) (hp1 : H1 p = some u) (n1 : NoTbl u) (n2 : NoExt u) (hF1 : F1 p = none) (nf1 : ∀ i, ¬ fp1 i p) : EnvW K σ s (upd H1 p o) F1 fp1 := by
  refine ⟨fun b u z => ?_, e1.len, fun i x hx => ?_, tabs_mutO e1.tb hp1 n1 n2, e1.dj, e1.nf, fun i b hb => ?_, e1.nt⟩
  · rw [upd_ne (ne_of_none z hF1)]; exact e1.ex b u z
  · exact (e1.sl i x hx).mono (Ex.refl F1) (fun b hb => upd_ne fun z => nf1 _ (z ▸ hb)) (mut_extO hp1 n2)
  · obtain ⟨o, w, n⟩ := e1.th i b hb
    exact ⟨o, by rw [upd_ne fun z => by subst z; exact nf1 _ hb]; exact w, n⟩
theorem lone_step (st : Step H F fp H1 F1 fp1) (hp : H p = none) : Step H F fp (upd H1 p o) F1 fp1 := by
  refine ⟨st.ex, st.new, fun b u h1 h2 h3 => ?_, st.fpn, fun b φ h1 => ?_⟩
  · rw [upd_ne (ne_of_none h1 hp)]; exact st.keep b u h1 h2 h3
  · rw [upd_ne (ne_of_none h1 hp)]; exact st.ext b φ h1
/-- .. and stays, unknown, through a step -/
theorem lone_keep (st : Step H F fp H1 F1 fp1) (hp : H p = some u) (n1 : NoTbl u) (hF : F p = none) (nf : ∀ i, ¬ fp i p) : H1 p = some u ∧ F1 p = none ∧ ∀ i, ¬ fp1 i p :=
  ⟨st.keep p _ hp n1 nf, st.new p hF ⟨_, hp, n1⟩ nf, fun i hi => by
    rcases st.fpn i p hi with ⟨j, hj⟩ | z
    · exact nf j hj
    · exact z ⟨_, hp, n1⟩⟩
theorem dr_ne {v : V} {d : D} {ds : List (D × D)} (h : At K F v d) (i : IsDict d ds) (hF : F p = none) : v ≠ .ref p := by
  intro e
  subst e
  cases i with
  | fr ds =>
    obtain ⟨a, o, kvs, e, h1, _⟩ := frz_at h
    cases e
    rw [hF] at h1; cases h1
  | pl ds n1 n2 =>
    cases h with
    | dic h1 t => rw [hF] at h1; cases h1
    | scr h1 => exact absurd rfl (n2 _ rfl)
    | obj h1 h2 t => exact absurd rfl (n1 _ rfl true)
    | zic h1 t => exact absurd rfl (n1 _ rfl false)
end
end DL

/-! {**a, **b} as data -/
namespace DL
open PySem PySem.Spec PyProof.Rows L2 KwX
abbrev kdL (ps : List (Key × D)) : List (D × D) := ps.map fun p => (keyD p.1, p.2)
section
variable {K : PySem.W.Frag} {P : Program} {w : World} {s s1 s2 : S} {ta tb : TE}
theorem keyD_inj : ∀ {a b : Key}, keyD a = keyD b → a = b
  | .inl i, .inl j, h => by cases h; rfl
  | .inl i, .inr j, h => by cases h
  | .inr i, .inl j, h => by cases h
  | .inr i, .inr j, h => by cases h; rfl
theorem atkv_merge {F : Hp} : ∀ {ps : List (Key × D)} {kvs js : List (Key × V)} {ds : List (D × D)}, AtKV K F kvs (kdL ps) → AtKV K F js ds → AtKV K F (mergeK js kvs) (dmerge ds ps)
  | [], kvs, js, ds, h, hj => by cases h; exact hj
  | (k, d) :: ps, kvs, js, ds, h, hj => by
    generalize e : kdL ((k, d) :: ps) = l at h
    cases h with
    | nil => cases e
    | cons h1 h2 =>
      rename_i k2 v kvs2 d2 ds2
      have e1 : keyD k = keyD k2 := congrArg (fun l : List (D × D) => (l.headD (.none, .none)).1) e
      have e2 : d = d2 := congrArg (fun l : List (D × D) => (l.headD (.none, .none)).2) e
      have e3 : kdL ps = ds2 := congrArg List.tail e
      obtain rfl := keyD_inj e1
      subst e2 e3
      exact atkv_merge (ps := ps) (kvs := kvs2) (js := putK js k v) (ds := dput ds k d) h2 (AtKV.put h1 hj)
theorem ev_mrg {da db : D} {pa pb : List (Key × D)} (ha : Ev K ta s da s1) (ia : IsDict da (kdL pa)) (hb : Ev K tb s1 db s2) (ib : IsDict db (kdL pb)) (hl : pa.length + pb.length ≤ sizeLine) :
    EvO K (tMrg P w K ta tb) s (dctR K none (dmerge (dmerge [] pa) pb)) s2 := fun σ H F fp e Q q p hp _ => by
  have e0 := e.growH (o := .dK []) hp
  have st0 : Step H F fp (upd H p (.dK [])) F fp := Step.growH hp
  have hpF : F p = none := e.ex.un hp
  have hfp : ∀ i, ¬ fp i p := fun i hi => (e.th i p hi).ne hp rfl
  have nt : ∀ l, NoTbl (HO.dK l) := fun l => by intro ps z; cases z
  have ne : ∀ l, NoExt (HO.dK l) := fun l => by intro ps z; cases z
  refine ha σ _ F fp e0 _ fun x H1 F1 fp1 e1 st1 a1 => ?_
  obtain ⟨hp1, hF1, nf1⟩ := lone_keep st1 upd_same (nt _) hpF hfp
  obtain ⟨kvs, hd, t⟩ := at_dr (P := P) (w := w) a1 ia e1.ex
  refine ⟨kvs, hd, dr_ne a1 ia hF1, hp1, ?_⟩
  have e2 := lone_env (o := .dK (mergeK [] kvs)) e1 hp1 (nt _) (ne _) hF1 nf1
  have st2 := lone_step (o := .dK (mergeK [] kvs)) (st0.trans st1) hp
  refine hb σ _ F1 fp1 e2 _ fun y H2 F2 fp2 e3 st3 a2 => ?_
  obtain ⟨hp2, hF2, nf2⟩ := lone_keep st3 upd_same (nt _) hF1 nf1
  obtain ⟨more, hd2, t2⟩ := at_dr (P := P) (w := w) a2 ib e3.ex
  have l1 : kvs.length = pa.length := by rw [t.len, List.length_map]
  have l2 : more.length = pb.length := by rw [t2.len, List.length_map]
  have l3 := length_mergeK kvs []
  refine ⟨more, hp2, hd2, dr_ne a2 ib hF2, by simp at l3; omega, ?_⟩
  have e4 := lone_env (o := .dK (mergeK (mergeK [] kvs) more)) e3 hp2 (nt _) (ne _) hF2 nf2
  have st4 := lone_step (o := .dK (mergeK (mergeK [] kvs) more)) (st2.trans st3) hp
  refine q _ _ F2 fp2 (fun b => b = p) e4 st4 ⟨p, _, rfl, (fun _ z => nomatch z), fun _ => Iff.rfl, upd_same, _, rfl, ?_⟩ ⟨fun b hb => by subst hb; exact hF2, fun b i hb hi => by subst hb; exact nf2 i hi, fun b hb => by subst hb; exact ⟨_, upd_same, by intro ps z; cases z⟩, fun b hb => ?_⟩
  · exact atkv_merge t2 ((atkv_merge t .nil).ex st3.ex)
  · subst hb
    exact .inr fun l => l.ne hp rfl
/-- {**W, **b}, W a written dict -/
theorem ev_mrgW {a : Addr} {kvs : List (Key × V)} {db : D} {pa pb : List (Key × D)} (hW : WrD P w K a kvs) (hat : ∀ F, AtKV K F kvs (kdL pa)) (hb : Ev K tb s db s2) (ib : IsDict db (kdL pb)) (hl : pa.length + pb.length ≤ sizeLine) :
    EvO K (tMrg P w K (tC (.ref a)) tb) s (dctR K none (dmerge (dmerge [] pa) pb)) s2 := fun σ H F fp e Q q p hp hK => by
  have e0 := e.growH (o := .dK []) hp
  have st0 : Step H F fp (upd H p (.dK [])) F fp := Step.growH hp
  have hpF : F p = none := e.ex.un hp
  have hfp : ∀ i, ¬ fp i p := fun i hi => (e.th i p hi).ne hp rfl
  have nt : ∀ l, NoTbl (HO.dK l) := fun l => by intro ps z; cases z
  have ne : ∀ l, NoExt (HO.dK l) := fun l => by intro ps z; cases z
  have hne : (V.ref a) ≠ .ref p := fun z => by
    cases z
    obtain ⟨es, n, kw, hl, _⟩ := hW
    rw [hK] at hl; cases hl
  refine ⟨kvs, ⟨a, rfl, .inr hW⟩, hne, upd_same, ?_⟩
  have e2 := lone_env (o := .dK (mergeK [] kvs)) e0 upd_same (nt _) (ne _) hpF hfp
  have st2 := lone_step (o := .dK (mergeK [] kvs)) st0 hp
  refine hb σ _ F fp e2 _ fun y H2 F2 fp2 e3 st3 a2 => ?_
  obtain ⟨hp2, hF2, nf2⟩ := lone_keep st3 upd_same (nt _) hpF hfp
  obtain ⟨more, hd2, t2⟩ := at_dr (P := P) (w := w) a2 ib e3.ex
  have l1 : kvs.length = pa.length := by rw [(hat F).len, List.length_map]
  have l2 : more.length = pb.length := by rw [t2.len, List.length_map]
  have l3 := length_mergeK kvs []
  refine ⟨more, hp2, hd2, dr_ne a2 ib hF2, by simp at l3; omega, ?_⟩
  have e4 := lone_env (o := .dK (mergeK (mergeK [] kvs) more)) e3 hp2 (nt _) (ne _) hF2 nf2
  have st4 := lone_step (o := .dK (mergeK (mergeK [] kvs) more)) (st2.trans st3) hp
  refine q _ _ F2 fp2 (fun b => b = p) e4 st4 ⟨p, _, rfl, (fun _ z => nomatch z), fun _ => Iff.rfl, upd_same, _, rfl, ?_⟩ ⟨fun b hb => by subst hb; exact hF2, fun b i hb hi => by subst hb; exact nf2 i hi, fun b hb => by subst hb; exact ⟨_, upd_same, by intro ps z; cases z⟩, fun b hb => ?_⟩
  · exact atkv_merge t2 (atkv_merge (hat F2) .nil)
  · subst hb
    exact .inr fun l => l.ne hp rfl
end
end DL

/-! new instances -/
namespace DL
open PySem PySem.Spec PyProof.Rows L2 KwX
abbrev fK (fs : List (Str × V)) : List (Key × V) := fs.map fun x => ((Sum.inr x.1 : Key), x.2)
/-- an instance of one's own: its attributes are data -/
def insR (K : PySem.W.Frag) (C : Addr) (ov : Option V) (ds : List (D × D)) : Rs where
  ok := fun F H P sv => ∃ a dx fs, sv = some (some (.ref a)) ∧ (∀ v, ov = some v → v = .ref a) ∧ (∀ b, P b ↔ b = a ∨ b = dx) ∧ dx ≠ a ∧ H a = some (.ins C dx fs) ∧ H dx = some (.own a) ∧ AtKV K F (fK fs) ds
  mono := fun ⟨a, dx, fs, h1, h2, h3, h4, h5, h6, h7⟩ e k _ => ⟨a, dx, fs, h1, h2, h3, h4, by rw [k a ((h3 a).mpr (.inl rfl))]; exact h5, by rw [k dx ((h3 dx).mpr (.inr rfl))]; exact h6, h7.ex e⟩
theorem pin_ins {K : PySem.W.Frag} {C : Addr} {v : V} {ds : List (D × D)} : Pin (insR K C (some v) ds) v := fun ⟨a, dx, fs, h1, h2, h3⟩ => ⟨a, dx, fs, by rw [h2 v rfl], h2, h3⟩
section
variable {K : PySem.W.Frag} {E : XK} {s s1 s2 s3 s' : S} {te ta tb ti : TE} {t : TS} {d x y : D} {o : Out} {σ : L2.St} {H F H0 F0 : Hp} {fp fp0 : Fp} {C : Addr}
/-- what is held at j becomes data -/
theorem EnvW.giveUp {m : Nat} (e : EnvW K σ s H F fp) : ∃ F', (∀ b, fp (.inr m) b → F' b = H b) ∧ Ex F F' ∧ EnvW K σ s H F' (fpSet fp (.inr m) noP) ∧ Step H F fp H F' (fpSet fp (.inr m) noP) := by
  classical
  let F' : Hp := fun b => if fp (.inr m) b then H b else F b
  have eF : Ex F F' := fun b o h => by
    have : ¬ fp (.inr m) b := fun z => by rw [e.nf _ b z] at h; cases h
    show (if fp (.inr m) b then H b else F b) = some o
    rw [if_neg this]; exact h
  have same : ∀ b, fp (.inr m) b → F' b = H b := fun b hb => if_pos hb
  have other : ∀ b, ¬ fp (.inr m) b → F' b = F b := fun b hb => if_neg hb
  refine ⟨F', same, eF, ⟨fun b u q => ?_, e.len, fun i x hx => ?_, e.tb, fun j k b hjk h1 h2 => ?_, fun j b hb => ?_, fun j b hb => ?_, fun b o q => ?_⟩, ⟨eF, fun b h1 h2 h3 => ?_, fun b o h1 _ _ => h1, fun j b hb => ?_, fun _ _ h => h⟩⟩
  · by_cases z : fp (.inr m) b
    · rw [same b z] at q; exact q
    · rw [other b z] at q; exact e.ex b u q
  · rw [fpSet_ne (by intro z; cases z)]
    exact (e.sl i x hx).mono eF (fun _ _ => rfl) (fun _ _ h => h)
  · by_cases z : j = .inr m
    · subst z; rw [fpSet_same] at h1; exact h1
    · rw [fpSet_ne z] at h1
      by_cases y : k = .inr m
      · subst y; rw [fpSet_same] at h2; exact h2
      · rw [fpSet_ne y] at h2; exact e.dj j k b hjk h1 h2
  · by_cases z : j = .inr m
    · subst z; rw [fpSet_same] at hb; exact hb.elim
    · rw [fpSet_ne z] at hb
      rw [other b fun w => e.dj j (.inr m) b z hb w]
      exact e.nf j b hb
  · by_cases z : j = .inr m
    · subst z; rw [fpSet_same] at hb; exact hb.elim
    · rw [fpSet_ne z] at hb; exact e.th j b hb
  · by_cases z : fp (.inr m) b
    · rw [same b z] at q
      obtain ⟨u, h1, h2⟩ := e.th _ b z
      rw [q] at h1; cases h1; exact h2
    · rw [other b z] at q; exact e.nt b o q
  · rw [other b (h3 _)]; exact h1
  · by_cases z : j = .inr m
    · subst z; rw [fpSet_same] at hb; exact hb.elim
    · rw [fpSet_ne z] at hb; exact .inl ⟨j, hb⟩
/-- self.f = e, a new attribute -/
theorem look_none : ∀ {fs : List (Str × V)} {ds : List (D × D)} {f : Str}, AtKV K F (fK fs) ds → dlook ds (.inr f) = none → fs.lookup f = none := fun {fs ds f} h q => by
  have := h.look.2 q
  rw [val_lookup] at this
  exact this
theorem putF_new : ∀ {fs : List (Str × V)} {f : Str} {v : V}, fs.lookup f = none → putF f v fs = fs ++ [(f, v)]
  | [], f, v, _ => rfl
  | (n, u) :: fs, f, v, h => by
    rw [List.lookup_cons] at h
    cases q : (f == n) with
    | true => rw [q] at h; cases h
    | false =>
      rw [q] at h
      have e1 : f ≠ n := by simpa using q
      unfold putF
      rw [if_neg (by first | exact e1 | exact fun z => e1 z.symm), putF_new h]
      rfl
theorem run_fldN {i : Nat} {ov : Option V} {ds : List (D × D)} {f : Str} (h : Ev K te s d s1) (hi : s1.s[i]? = some (.res (insR K C ov ds))) (c : Cls K C) (n : NoAttr K C f) (hl : ds.length < 1000) (hn : dlook ds (.inr f) = none) :
    Run K E (sFld K (tVar i) te f) s (.nx (s1.set i (.res (insR K C ov (ds ++ [(.str f, d)]))))) := fun σ H F fp e Ed q =>
  h σ H F fp e _ fun v H1 F1 fp1 e1 st1 a1 => by
    obtain ⟨a, dx, fs, h1, h2, h3, h4, h5, h6, h7⟩ := e1.sl i _ hi
    have lf : fs.length = ds.length := by have := h7.len; simpa using this
    refine ⟨.ref a, h1, a, C, dx, fs, rfl, h5, c, n, by omega, ?_⟩
    have hfa : fp1 (.inl i) a := (h3 a).mpr (.inl rfl)
    have hil : i < s1.s.length := (List.getElem?_eq_some_iff.mp hi).1
    have n1 : NoTbl (.ins C dx fs) := fun ps z => by cases z
    have n2 : NoExt (.ins C dx fs) := fun ps z => by cases z
    have pf := putF_new (v := v) (look_none h7 hn)
    rw [pf]
    refine q σ _ F1 fp1 ⟨fun b u q => ?_, by simp [S.set, e1.len], fun j y hj => ?_, tabs_mutO e1.tb h5 n1 n2, e1.dj, e1.nf, fun j b h => ?_, e1.nt⟩ (st1.trans ⟨Ex.refl F1, fun _ h _ _ => h, fun b o h1 _ h2 => ?_, fun j b h => .inl ⟨j, h⟩, mut_extO h5 n2⟩)
    · rw [upd_ne (ne_of_none q (e1.nf _ a hfa))]; exact e1.ex b u q
    · by_cases z : j = i
      · subst z
        have e2 : (s1.s.set j (.res (insR K C ov (ds ++ [(.str f, d)]))))[j]? = some (.res (insR K C ov (ds ++ [(.str f, d)]))) := List.getElem?_set_self hil
        rw [show (s1.set j (.res (insR K C ov (ds ++ [(.str f, d)])))).s = s1.s.set j (.res (insR K C ov (ds ++ [(.str f, d)]))) from rfl, e2] at hj
        cases hj
        refine ⟨a, dx, fs ++ [(f, v)], h1, h2, h3, h4, upd_same, by rw [upd_ne h4]; exact h6, ?_⟩
        have := h7.app (js := [(.inr f, v)]) (es := [(.str f, d)]) (AtKV.cons (k := .inr f) a1 .nil)
        unfold fK
        rw [List.map_append]
        exact this
      · have e2 : (s1.s.set i (.res (insR K C ov (ds ++ [(.str f, d)]))))[j]? = s1.s[j]? := List.getElem?_set_ne (Ne.symm z)
        rw [show (s1.set i (.res (insR K C ov (ds ++ [(.str f, d)])))).s = s1.s.set i (.res (insR K C ov (ds ++ [(.str f, d)]))) from rfl, e2] at hj
        exact (e1.sl j y hj).mono (Ex.refl F1) (fun b hb => upd_ne fun q => e1.dj (.inl j) (.inl i) b (by intro w; cases w; exact z rfl) hb (q ▸ hfa)) (mut_extO h5 n2)
    · by_cases z : b = a
      · subst z; exact ⟨_, upd_same, by intro ps z; cases z⟩
      · obtain ⟨o, q, n⟩ := e1.th j b h; exact ⟨o, by rw [upd_ne z]; exact q, n⟩
    · have : b ≠ a := fun q => h2 (.inl i) (q ▸ hfa)
      rw [upd_ne this]; exact h1
/-- the keywords as data -/
abbrev kwD (ps : List (Str × D)) : List (D × D) := ps.map fun p => (.str p.1, p.2)
theorem make_env {kvs : List (Str × V)} {ds : List (D × D)} {x dx dd : Addr} {od : Obj} (e : EnvW K σ s H F fp) (a : AtKV K F (kwK kvs) ds) (hx : H x = none) (hdx : H dx = none) (hne : dx ≠ x) (hdd : upd (upd H dx (.own x)) x (.ins C dx []) dd = none) :
    ∃ F2, EnvW K σ s (upd (upd (upd H dx (.own x)) x (.ins C dx [])) dd (.frz od (.dK (kwK kvs)))) F2 fp ∧ Step H F fp (upd (upd (upd H dx (.own x)) x (.ins C dx [])) dd (.frz od (.dK (kwK kvs)))) F2 fp ∧
      Own H fp (upd (upd (upd H dx (.own x)) x (.ins C dx [])) dd (.frz od (.dK (kwK kvs)))) F2 fp (fun b => b = x ∨ b = dx) ∧
      EnvW K ([V.ref x, V.ref dd].map some) ⟨[.res (insR K C (some (.ref x)) []), .dat (frzD ds)], s.g⟩ (upd (upd (upd H dx (.own x)) x (.ins C dx [])) dd (.frz od (.dK (kwK kvs)))) F2 (fun j b => j = .inl 0 ∧ (b = x ∨ b = dx)) := by
  have hx' : upd H dx (.own x) x = none := by rw [upd_ne (Ne.symm hne)]; exact hx
  have e1 : EnvW K σ s (upd H dx (.own x)) F fp := e.growH hdx
  have e2 : EnvW K σ s (upd (upd H dx (.own x)) x (.ins C dx [])) F fp := e1.growH hx'
  have g : Grow F (upd (upd H dx (.own x)) x (.ins C dx [])) (upd F dd (.frz od (.dK (kwK kvs)))) (upd (upd (upd H dx (.own x)) x (.ins C dx [])) dd (.frz od (.dK (kwK kvs)))) := Grow.laid e2.ex hdd
  have e3 := e2.grow g
  have st : Step H F fp (upd (upd (upd H dx (.own x)) x (.ins C dx [])) dd (.frz od (.dK (kwK kvs)))) (upd F dd (.frz od (.dK (kwK kvs)))) fp := ((Step.growH hdx).trans (Step.growH hx')).trans (e2.growS g)
  have nx : x ≠ dd := fun z => by subst z; rw [upd_same] at hdd; cases hdd
  have ndx : dx ≠ dd := fun z => by subst z; rw [upd_ne hne, upd_same] at hdd; cases hdd
  have v1 : (upd (upd (upd H dx (.own x)) x (.ins C dx [])) dd (.frz od (.dK (kwK kvs)))) x = some (.ins C dx []) := by rw [upd_ne nx, upd_same]
  have v2 : (upd (upd (upd H dx (.own x)) x (.ins C dx [])) dd (.frz od (.dK (kwK kvs)))) dx = some (.own x) := by rw [upd_ne ndx, upd_ne hne, upd_same]
  have oP : Own H fp (upd (upd (upd H dx (.own x)) x (.ins C dx [])) dd (.frz od (.dK (kwK kvs)))) (upd F dd (.frz od (.dK (kwK kvs)))) fp (fun b => b = x ∨ b = dx) := by
    refine ⟨fun b hb => ?_, fun b i hb hi => ?_, fun b hb => ?_, fun b hb => .inr fun l => ?_⟩
    · rcases hb with rfl | rfl
      · rw [upd_ne nx]; exact e.ex.un hx
      · rw [upd_ne ndx]; exact e.ex.un hdx
    · rcases hb with rfl | rfl
      · exact (e.th i _ hi).ne hx rfl
      · exact (e.th i _ hi).ne hdx rfl
    · rcases hb with rfl | rfl
      · exact ⟨_, v1, by intro ps z; cases z⟩
      · exact ⟨_, v2, by intro ps z; cases z⟩
    · rcases hb with rfl | rfl
      · exact l.ne hx rfl
      · exact l.ne hdx rfl
  refine ⟨_, e3, st, oP, ⟨e3.ex, rfl, fun k y hy => ?_, e3.tb, fun j k b hjk h1 h2 => hjk (h1.1.trans h2.1.symm), fun j b h => oP.nf b h.2, fun j b h => oP.th b h.2, e3.nt⟩⟩
  match k, hy with
  | 0, hy =>
    simp at hy
    subst hy
    exact ⟨x, dx, [], rfl, fun v hv => (Option.some.inj hv).symm, fun b => ⟨fun z => z.2, fun z => ⟨rfl, z⟩⟩, hne, v1, v2, .nil⟩
  | 1, hy =>
    simp at hy
    subst hy
    exact ⟨.ref dd, rfl, .zic upd_same (a.ex g.f)⟩
theorem make_call {R : FR} {kvs : List (Str × V)} {ds es : List (D × D)} {x1 : Sl} {Q : VK} (e : EnvW K σ s H F fp) (a : AtKV K F (kwK kvs) ds)
    (hR : ∀ v, R ⟨[.res (insR K C (some v) []), .dat (frzD ds)], s.g⟩ (.rt .none ⟨[.res (insR K C (some v) es), x1], s.g⟩))
    (q : ∀ v H' F' fp', EnvW K σ s H' F' fp' → Step H F fp H' F' fp' → At K F' v (objD C es) → Q v H') : MkKw C (spF K R) E kvs H Q := by
  intro x dx hx hdx hne dd od hdd
  obtain ⟨F2, e3, st3, oP, ec⟩ := make_env (od := od) e a hx hdx hne hdd
  have e4 := e3.hold (m := 0) oP
  have st4 := st3.own (i := .inr 0) oP
  refine ⟨_, F2, _, _, ec, hR (.ref x), fun v H' F' fp' e' st av => ?_⟩
  cases av
  refine ⟨rfl, ?_⟩
  have h := frame (J := fun j => j = .inr 0) (fun _ => .inl 0) (s2 := s) e4 (fun j k hj hk _ => hj.trans hk.symm) (fun (j : Ix) (b : Addr) (h : j = .inl 0 ∧ (b = x ∨ b = dx)) => ⟨.inr 0, rfl, by rw [fpSet_same]; exact h.2⟩) e' st rfl (fun k x hx => ⟨(fun z => nomatch z), fun _ => hx⟩) rfl
  obtain ⟨a', dx', fs, h1, h2, h3, h4, h5, h6, h7⟩ := e'.sl 0 _ rfl
  have ea : a' = x := by have := h2 (.ref x) rfl; cases this; rfl
  subst ea
  obtain ⟨F3, g1, g2, g3, g4⟩ := h.1.giveUp (m := 0)
  refine q _ H' F3 _ g3 ((st4.trans h.2).trans g4) (.obj (dx := dx') (fs := fs) ?_ ?_ (h7.ex g2))
  · rw [g1 _ (by rw [if_pos rfl]; exact (h3 _).mpr (.inl rfl))]; exact h5
  · rw [g1 _ (by rw [if_pos rfl]; exact (h3 _).mpr (.inr rfl))]; exact h6
theorem make_raise {R : FR} {kvs : List (Str × V)} {ds : List (D × D)} {sx : List Sl} {Q : VK} {Cx : Addr} {fl : Str} (e : EnvW K σ s H F fp) (a : AtKV K F (kwK kvs) ds)
    (hR : ∀ v, R ⟨[.res (insR K C (some v) []), .dat (frzD ds)], s.g⟩ (.ex Cx fl d ⟨sx, s.g⟩))
    (q : ∀ dd v H' F' fp', EnvW K σ s H' F' fp' → Step H F fp H' F' fp' → F' dd = some (.xd [(fl, v)]) → At K F' v d → E (.ref Cx) (some dd) H') : MkKw C (spF K R) E kvs H Q := by
  intro x dx hx hdx hne dd od hdd
  obtain ⟨F2, e3, st3, oP, ec⟩ := make_env (od := od) e a hx hdx hne hdd
  have e4 := e3.hold (m := 0) oP
  have st4 := st3.own (i := .inr 0) oP
  refine ⟨_, F2, _, _, ec, hR (.ref x), fun dd v H' F' fp' e' st hd av => ?_⟩
  have h := frame (J := fun j => j = .inr 0) (fun _ => .inl 0) (s2 := s) e4 (fun j k hj hk _ => hj.trans hk.symm) (fun (j : Ix) (b : Addr) (h : j = .inl 0 ∧ (b = x ∨ b = dx)) => ⟨.inr 0, rfl, by rw [fpSet_same]; exact h.2⟩) e' st rfl (fun k x hx => ⟨(fun z => nomatch z), fun _ => hx⟩) rfl
  exact q dd v H' F' _ (h.1.letGo (m := 0)) ((st4.trans h.2).trans (Step.drop (i := .inr 0))) hd av
theorem kw_at : ∀ {ks : List Str} {zs : List V} {ds : List D}, AtAll K F zs ds → AtKV K F (kwK (ks.zip zs)) (kwD (ks.zip ds))
  | [], _, _, _ => .nil
  | _ :: _, _, _, .nil => .nil
  | k :: ks, _, _, .cons h t => AtKV.cons (k := .inr k) h (kw_at t)
/-- C(k = v, ..) -/
theorem ev_makeKw {R : FR} {tk : TA} {ks : List Str} {ds : List D} {es : List (D × D)} {x1 : Sl} (hk : EvA K tk s ds s1) (hl : ds.length = ks.length)
    (hR : ∀ v, R ⟨[.res (insR K C (some v) []), .dat (frzD (kwD (ks.zip ds)))], s1.g⟩ (.rt .none ⟨[.res (insR K C (some v) es), x1], s1.g⟩)) : Ev K (tMakeKw C ks (spF K R) E tk) s (objD C es) s1 := fun σ H F fp e Q q =>
  hk σ H F fp e _ fun zs H1 F1 fp1 e1 st1 a1 => ⟨by rw [a1.length, hl], make_call e1 (kw_at a1) hR fun v H' F' fp' e' st av => q v H' F' fp' e' (st1.trans st) av⟩
theorem er_makeKw {R : FR} {tk : TA} {ks : List Str} {ds : List D} {sx : List Sl} {Cx : Addr} {fl : Str} (hk : EvA K tk s ds s1) (hl : ds.length = ks.length)
    (hR : ∀ v, R ⟨[.res (insR K C (some v) []), .dat (frzD (kwD (ks.zip ds)))], s1.g⟩ (.ex Cx fl d ⟨sx, s1.g⟩)) : EvR K E (tMakeKw C ks (spF K R) E tk) s Cx fl d s1 := fun σ H F fp e Q q =>
  hk σ H F fp e _ fun zs H1 F1 fp1 e1 st1 a1 => ⟨by rw [a1.length, hl], make_raise e1 (kw_at a1) hR fun dd v H' F' fp' e' st hd av => q dd v H' F' fp' e' (st1.trans st) hd av⟩
end
end DL

/-! o.m(**d) -/
namespace KwX
open PySem PySem.Spec PySem.W PyProof.Rows L2
section
variable {M : Model} {A : Around} {E : Value → Shared → Prop} {s : Shared} {K : Frag}
theorem callWith_SP {P : Heap → Prop} {f : Value} {first : List Value} {pos : Pos} {x : Sem Value} {Q : Value → Shared → Prop} (hk : ∀ h, P h → ∃ k, (k = Keeper.frame ∨ k = Keeper.machine ∨ k = Keeper.boundFrame) ∧ Looks M h (keeperOf f) k)
    (h : wpAny M A (evalArgs f true [] [(none, x)]) (fun a s₁ => P s₁.heap ∧ wpAny M A (call f (first ++ a.pos) a.kw) Q E s₁) E s) : wpAny M A (callWith pos f first [] [(none, x)]) Q E s := by
  unfold callWith
  refine wpAny_bind (wpAny_holding (wpAny_mono h (fun a s₁ h₁ => wpAny_bind (wpAny_standAt ?_)) fun _ _ x => x))
  obtain ⟨k, hk', L⟩ := hk _ h₁.1
  refine wpAny_bind (L.here ?_)
  have tail : ∀ {t : Sem Value}, wpAny M A t Q E s₁ → wpAny M A (t >>= fun r => holding [r] point >>= fun _ => pure r) Q E s₁ :=
    fun ht => wpAny_bind (wpAny_mono ht (fun r s₂ hr => wpAny_bind (wpAny_holding (wpAny_point (wpAny_pure hr)))) fun _ _ x => x)
  have marked (mk : Value) : wpAny M A (callMarked mk f (first ++ a.pos) a.kw) Q E s₁ := by unfold callMarked; exact Calls.wpAny_keep h₁.2
  rcases hk' with rfl | rfl | rfl <;> dsimp only [List.any_nil, List.any_cons, Option.isNone_none, Bool.true_or, Bool.false_or] <;> first | exact tail (marked _) | exact tail (wpAny_operating h₁.2)
theorem dscall_of {env : Env} {o e : Expr} {m : Str} {apos pos kpos : Pos} {Q : Value → Shared → Prop} (hbase : attributeBase o m env (eval o env) = eval o env)
    (h : wpAny M A (eval o env) (fun ov s₁ => wpAny M A (getAttr ov m true) (fun f s₂ => wpAny M A (callWith pos f [] [] [(none, do let v ← eval e env; standAt pos; pure v)]) Q E s₂) E s₁) E s) :
    wpAny M A (eval (.Call (.Attribute o m apos) [] [⟨none, e, kpos⟩] pos) env) Q E s := by
  have hst : starEach [] env = [] := rfl
  have hke : backToKw pos (keywordEach [⟨none, e, kpos⟩] env) = [(none, do let v ← eval e env; standAt pos; pure v)] := rfl
  have hbt : backTo pos ([] : List (Bool × Sem Value)) = [] := rfl
  rw [arm_eval_Call, hbase, hst, hke, hbt]
  refine wpAny_bind (wpAny_mono h (fun ov s₁ h₁ => ?_) fun _ _ x => x)
  refine wpAny_bind (wpAny_standAt ?_)
  unfold methodCall
  have hform : methodCallForm ([] ++ [(⟨none, e, kpos⟩ : Keyword)]).length [] [((none : Option Str), (do let v ← eval e env; standAt pos; pure v : Sem Value))] = false := rfl
  show wpAny M A (holding [ov] (calleeOf (methodCallForm _ _ _) o env ov m) >>= _) Q E s₁
  rw [show ∀ n, methodCallForm n ([] : List (Bool × Sem Value)) [((none : Option Str), (do let v ← eval e env; standAt pos; pure v : Sem Value))] = false from fun n => rfl]
  have hcal : ∀ ov, calleeOf false o env ov m = (getAttr ov m true >>= fun v => pure (v, [])) := fun _ => rfl
  have hpos : methodCallPos false o env apos pos = pure pos := rfl
  rw [hcal, hpos]
  refine wpAny_bind (wpAny_holding (wpAny_bind (wpAny_mono h₁ (fun f s₂ h₂ => wpAny_pure ?_) fun _ _ x => x)))
  exact wpAny_bind (wpAny_pure h₂)
end
def tMethDs (P : Program) (w : World) (K : Frag) (C : Addr) (m : Str) (g : Addr) (pn : Str) (sp : Sp) (E : XK) (ta tb : TE) : TE := fun σ H Q => ta σ H fun x H0 => ∃ a dx fs, x = .ref a ∧ H0 a = some (.ins C dx fs) ∧ fs.lookup m = none ∧
  ∀ q, H0 q = none → ∀ p, upd H0 q (.met g a) p = none → tb σ (upd (upd H0 q (.met g a)) p (.dK [])) fun y H1 => ∃ kvs : List (Str × V), H1 q = some (.met g a) ∧ H1 p = some (.dK []) ∧ DRd P w K y (kwK kvs) H1 ∧ y ≠ .ref p ∧ (kvs.map (·.1)).Nodup ∧ (∀ z ∈ kvs, z.1 ≠ pn) ∧
    ∀ dd od, (upd H1 p (.dK (kwK kvs))) dd = none → sp [x, .ref dd] (upd (upd H1 p (.dK (kwK kvs))) dd (.frz od (.dK (kwK kvs)))) Q E
section
variable {X : Cx} {CX : CXT} {k : Nat} {g C : Addr} {pn m : Str} {sp : Sp} {E : XK} {apos pos kpos : Pos} {o e : Expr} {ta tb : TE}
theorem pe_methDs (ho : PE X o ta) (c : Cls X.K C) (hm : BMeth X.K C m g) (F : FnKw X.prog X.w X.K X.mg X.base CX k g pn sp) (hr : Room k X.A) (hx : Passes CX X E) (he : PE X e tb) (hbase : attributeBase o m X.env (eval o X.env) = eval o X.env := by rfl) :
    PE X (.Call (.Attribute o m apos) [] [⟨none, e, kpos⟩] pos) (tMethDs X.prog X.w X.K C m g pn sp E ta tb) := by
  refine ⟨fun pins s σ H Q I h => ?_⟩
  refine dscall_of hbase (thn (ho.run pins s σ H _ I h) fun u s0 ⟨x, H0, I0, rx, a, dx, fs, ex, ea, l, q⟩ => ?_)
  subst ex
  obtain rfl : u = Value.ref a := rx
  refine getbound_ok I0 ea c hm l fun q1 s00 hq1 I00 => ?_
  refine callWith_SP (P := PySem.W.MethP X.K q1 g (.ref a)) (PySem.W.keeps_M hm.fi) ?_
  unfold evalArgs
  dsimp only
  rw [show (spliced [] : Sem (List Value)) = pure [] from rfl]
  refine wpAny_bind (wpAny_pure (wpAny_bind (wpAny_pure ?_)))
  dsimp only
  refine wpAny_holding ?_
  rw [if_neg (by simp)]
  refine wpAny_bind ?_
  unfold mergedKeywords
  refine wpAny_bind (wpAny_alloc ?_)
  refine wpAny_bind (wpAny_holding ?_)
  dsimp -failIfUnchanged only
  refine wpAny_bind ?_
  rw [List.forIn_cons]
  refine wpAny_bind ?_
  dsimp -failIfUnchanged only
  rw [if_pos List.isEmpty_nil]
  refine wpAny_bind (wpAny_pure ?_)
  have hn := I00.hok.fresh (Nat.le_refl s00.heap.objs.size)
  have hqp : q1 ≠ s00.heap.objs.size := fun z => by
    have : upd H0 q1 (.met g a) q1 = some (.met g a) := upd_same
    rw [z] at this hn
    rw [this] at hn
    cases hn
  have I1 := I00.laid (a := s00.heap.objs.size) (o := .dK []) (h' := s00.heap.push { cls := .type "dict", data := .dict #[] }) (t' := s00.toks) (fun _ _ q => Heap.get?_push_of_some _ q) (Nat.le_refl _) (dk_empty s00.heap I00.big)
  refine wpAny_bind (wpAny_bind (thn (he.run pins _ σ _ _ I1 (q q1 hq1 _ hn)) fun u s1 ⟨y, H1, I2, ry, kvs, hq2, hp1, hdr, hne, nd, hpn, q2⟩ => wpAny_bind (wpAny_standAt (wpAny_pure ?_))))
  have z1 : (kwK kvs).length ≤ sizeLine := by obtain ⟨_, _, _, _, _, _, z⟩ := hdr.get I2; exact z
  have ndK := kwKV_nodup nd
  refine wpAny_bind (wpAny_onRaise (wpAny_holding (wpAny_tryCatch (wpAny_onRaise (mrg_step I2 hp1 hdr hne ry (by simpa using z1) (fun _ => by simpa using ndK) fun h1 I3 => ?_)))))
  rw [mergeK_nil ndK] at I3
  refine wpAny_pure ?_
  dsimp -failIfUnchanged only
  rw [List.forIn_nil]
  refine wpAny_pure ?_
  dsimp -failIfUnchanged only
  rw [if_pos List.isEmpty_nil]
  refine wpAny_pure (wpAny_pure (wpAny_bind (wpAny_pure (wpAny_bind (wpAny_holding ?_)))))
  obtain ⟨_, _, vs, rel, dd⟩ := dk_of I3.hok upd_same
  obtain ⟨kw, rfl, rk⟩ := kv_unK rel
  obtain ⟨od, es, ep, hod, hcd, hdd, hkd, hpd, hnd⟩ := dd
  unfold keywordsIn
  refine wpAny_bind (wpAny_dictEntries hod hdd ?_)
  rw [← Array.forIn_toList, kw_loop _ (fun h x t v b => rfl) es.toList kw [] hpd]
  have hmet : upd H1 s00.heap.objs.size (.dK (kwK kvs)) q1 = some (.met g a) := by rw [upd_ne hqp]; exact hq2
  refine wpAny_bind (wpAny_pure (wpAny_pure (wpAny_pure ⟨met_P I3 hmet, ?_⟩)))
  show wpAny _ _ (call (.ref q1) [] kw) _ _ _
  refine wpAny_call (call_met I3 hmet (codeAny_mono (F X.A X.stack _ _ (.ref a) kw (.ref a) kvs Q E hr I3.env0 rfl rk nd hpn (by unfold kwK at z1; rw [List.length_map] at z1; exact z1) q2) fun r s' hq => ?_))
  cases r with
  | error e => exact hx pins σ _ _ e s' I3 hq
  | ok fl =>
    cases fl with
    | ret u => exact I3.after hq
    | next => exact False.elim hq
    | brk => exact False.elim hq
    | cont => exact False.elim hq
end
end KwX

/-! methods with **kw as data -/
namespace DL
open PySem PySem.Spec PyProof.Rows L2 KwX
section
variable {K : PySem.W.Frag} {P : Program} {w : World} {E : XK} {s s1 s2 s3 s' : S} {te ta tb ti : TE} {t : TS} {d x y : D} {o : Out} {σ : L2.St} {H F H0 F0 : Hp} {fp fp0 : Fp} {C : Addr}
theorem obj_inv {v : V} {ds : List (D × D)} (h : At K F v (objD C ds)) : ∃ a dx fs, v = .ref a ∧ F a = some (.ins C dx fs) ∧ F dx = some (.own a) ∧ AtKV K F (fK fs) ds := by
  generalize e : objD C ds = y at h
  cases h with
  | @obj a dx C' fs ds' h1 h2 t =>
    have z := PyData.dict.inj e
    have z := (Prod.mk.inj (List.cons.inj z).1).2
    have z := PyData.tuple.inj z
    have z1 := PyData.int.inj (List.cons.inj z).1
    have z2 := PyData.dict.inj (List.cons.inj (List.cons.inj z).2).1
    have z1 : C = C' := Int.ofNat.inj z1
    subst z1 z2
    exact ⟨a, dx, fs, rfl, h1, h2, t⟩
  | dic h1 t =>
    unfold objD at e
    cases t with
    | nil => cases e
    | @cons k v kvs d' ds' a b => cases k <;> cases e
  | scr h1 => cases e
  | _ => cases e
/-- the frozen keywords' dict -/
theorem kw_env {kvs : List (Str × V)} {ps : List (D × D)} {x : V} {dd : Addr} {od : Obj} (e : EnvW K σ s H F fp) (a : AtKV K F (kwK kvs) ps) (hx : At K F x d) (hdd : H dd = none) :
    ∃ F2, Ex F F2 ∧ EnvW K σ s (upd H dd (.frz od (.dK (kwK kvs)))) F2 fp ∧ Step H F fp (upd H dd (.frz od (.dK (kwK kvs)))) F2 fp ∧
      EnvW K ([x, V.ref dd].map some) ⟨[.dat d, .dat (frzD ps)], s.g⟩ (upd H dd (.frz od (.dK (kwK kvs)))) F2 noF := by
  have g : Grow F H (upd F dd (.frz od (.dK (kwK kvs)))) (upd H dd (.frz od (.dK (kwK kvs)))) := Grow.laid e.ex hdd
  have e3 := e.grow g
  refine ⟨_, g.f, e3, e.growS g, ?_⟩
  exact env_dat (ds := [d, frzD ps]) e3 (.cons (hx.ex g.f) (.cons (.zic upd_same (a.ex g.f)) .nil))
theorem kw_call {R : FR} {kvs : List (Str × V)} {ps : List (D × D)} {x : V} {dr : D} {Q : VK} (e : EnvW K σ s H F fp) (a : AtKV K F (kwK kvs) ps) (hx : At K F x d)
    (hR : R ⟨[.dat d, .dat (frzD ps)], s.g⟩ (.rt dr ⟨[.dat d, .dat (frzD ps)], s.g⟩)) (q : ∀ v H' F' fp', EnvW K σ s H' F' fp' → Step H F fp H' F' fp' → At K F' v dr → Q v H') :
    ∀ dd od, H dd = none → spF K R [x, .ref dd] (upd H dd (.frz od (.dK (kwK kvs)))) Q E := fun dd od hdd => by
  obtain ⟨F2, eF, e3, st3, ec⟩ := kw_env (od := od) e a hx hdd
  refine ⟨_, F2, _, _, ec, hR, fun v H' F' fp' e' st av => ?_⟩
  obtain ⟨e4, st4⟩ := frame0 e3 e' st rfl
  exact q v H' F' fp e4 (st3.trans st4) av
theorem kw_raise {R : FR} {kvs : List (Str × V)} {ps : List (D × D)} {x : V} {dr : D} {Q : VK} {Cx : Addr} {fl : Str} (e : EnvW K σ s H F fp) (a : AtKV K F (kwK kvs) ps) (hx : At K F x d)
    (hR : R ⟨[.dat d, .dat (frzD ps)], s.g⟩ (.ex Cx fl dr ⟨[.dat d, .dat (frzD ps)], s.g⟩)) (q : ∀ dd v H' F' fp', EnvW K σ s H' F' fp' → Step H F fp H' F' fp' → F' dd = some (.xd [(fl, v)]) → At K F' v dr → E (.ref Cx) (some dd) H') :
    ∀ dd od, H dd = none → spF K R [x, .ref dd] (upd H dd (.frz od (.dK (kwK kvs)))) Q E := fun dd od hdd => by
  obtain ⟨F2, eF, e3, st3, ec⟩ := kw_env (od := od) e a hx hdd
  refine ⟨_, F2, _, _, ec, hR, fun dd' v H' F' fp' e' st hd av => ?_⟩
  obtain ⟨e4, st4⟩ := frame0 e3 e' st rfl
  exact q dd' v H' F' fp e4 (st3.trans st4) hd av
/-- o.m(k = v, ..) -/
theorem ev_methKw {R : FR} {tk : TA} {m : Str} {ks : List Str} {ds : List D} {os : List (D × D)} (ho : Ev K ta s (objD C os) s1) (hn : dlook os (.inr m) = none) (hk : EvA K tk s1 ds s2) (hl : ds.length = ks.length)
    (hR : R ⟨[.dat (objD C os), .dat (frzD (kwD (ks.zip ds)))], s2.g⟩ (.rt d ⟨[.dat (objD C os), .dat (frzD (kwD (ks.zip ds)))], s2.g⟩)) : Ev K (tMethKw C m ks (spF K R) E ta tk) s d s2 := fun σ H F fp e Q q =>
  ho σ H F fp e _ fun v H1 F1 fp1 e1 st1 a1 => by
    obtain ⟨a, dx, fs, rfl, h1, h2, t⟩ := obj_inv a1
    refine ⟨a, dx, fs, rfl, e1.ex _ _ h1, look_none t hn, hk σ H1 F1 fp1 e1 _ fun zs H2 F2 fp2 e2 st2 a2 => ⟨by rw [a2.length, hl], ?_⟩⟩
    exact kw_call e2 (kw_at a2) (a1.ex st2.ex) hR fun v H' F' fp' e' st av => q v H' F' fp' e' ((st1.trans st2).trans st) av
theorem er_methKw {R : FR} {tk : TA} {m : Str} {ks : List Str} {ds : List D} {os : List (D × D)} {Cx : Addr} {fl : Str} (ho : Ev K ta s (objD C os) s1) (hn : dlook os (.inr m) = none) (hk : EvA K tk s1 ds s2) (hl : ds.length = ks.length)
    (hR : R ⟨[.dat (objD C os), .dat (frzD (kwD (ks.zip ds)))], s2.g⟩ (.ex Cx fl d ⟨[.dat (objD C os), .dat (frzD (kwD (ks.zip ds)))], s2.g⟩)) : EvR K E (tMethKw C m ks (spF K R) E ta tk) s Cx fl d s2 := fun σ H F fp e Q q =>
  ho σ H F fp e _ fun v H1 F1 fp1 e1 st1 a1 => by
    obtain ⟨a, dx, fs, rfl, h1, h2, t⟩ := obj_inv a1
    refine ⟨a, dx, fs, rfl, e1.ex _ _ h1, look_none t hn, hk σ H1 F1 fp1 e1 _ fun zs H2 F2 fp2 e2 st2 a2 => ⟨by rw [a2.length, hl], ?_⟩⟩
    exact kw_raise e2 (kw_at a2) (a1.ex st2.ex) hR fun dd v H' F' fp' e' st hd av => q dd v H' F' fp' e' ((st1.trans st2).trans st) hd av
/-- text keys -/
theorem kv_txt : ∀ {kvs : List (Key × V)} {ps : List (Str × D)}, AtKV K F kvs (kwD ps) → ∃ ks : List (Str × V), kvs = kwK ks ∧ ks.map (·.1) = ps.map (·.1)
  | [], [], _ => ⟨[], rfl, rfl⟩
  | [], _ :: _, h => by cases h
  | _ :: _, [], h => by cases h
  | (k, v) :: kvs, (n, d) :: ps, h => by
    generalize e : kwD ((n, d) :: ps) = l at h
    cases h with
    | @cons k v kvs d' ds' h1 h2 =>
      have e1 : PyData.str n = keyD k := congrArg (fun l : List (D × D) => (l.headD (.none, .none)).1) e
      have e3 : kwD ps = ds' := congrArg List.tail e
      subst e3
      obtain ⟨ks, rfl, e4⟩ := kv_txt h2
      cases k with
      | inl i => cases e1
      | inr z =>
        cases e1
        exact ⟨(n, v) :: ks, rfl, by simp [e4]⟩
/-- what stands at p, new, through the reading of a dict -/
theorem dict_arg {da : D} {ps : List (Str × D)} {p : Addr} {Q : V → Hp → Prop} (e : EnvW K σ s H F fp) (ha : Ev K ta s da s1) (ia : IsDict da (kwD ps)) (hp : H p = none)
    (q : ∀ y H1 F1 fp1 ks, H1 p = some (.dK []) → DRd P w K y (kwK ks) H1 → y ≠ .ref p → ks.map (·.1) = ps.map (·.1) → EnvW K σ s1 (upd H1 p (.dK (kwK ks))) F1 fp1 → Step H F fp (upd H1 p (.dK (kwK ks))) F1 fp1 → AtKV K F1 (kwK ks) (kwD ps) → Q y H1) : ta σ (upd H p (.dK [])) Q := by
  have e0 := e.growH (o := .dK []) hp
  have st0 : Step H F fp (upd H p (.dK [])) F fp := Step.growH hp
  have hpF : F p = none := e.ex.un hp
  have hfp : ∀ i, ¬ fp i p := fun i hi => (e.th i p hi).ne hp rfl
  have nt : ∀ l, NoTbl (HO.dK l) := fun l => by intro ps z; cases z
  have ne : ∀ l, NoExt (HO.dK l) := fun l => by intro ps z; cases z
  refine ha σ _ F fp e0 _ fun x H1 F1 fp1 e1 st1 a1 => ?_
  obtain ⟨hp1, hF1, nf1⟩ := lone_keep st1 upd_same (nt _) hpF hfp
  obtain ⟨kvs, hd, t⟩ := at_dr (P := P) (w := w) a1 ia e1.ex
  obtain ⟨ks, rfl, ek⟩ := kv_txt t
  exact q x H1 F1 fp1 ks hp1 hd (dr_ne a1 ia hF1) ek (lone_env (o := .dK (kwK ks)) e1 hp1 (nt _) (ne _) hF1 nf1) (lone_step (o := .dK (kwK ks)) (st0.trans st1) hp) t
/-- C(**d) -/
theorem ev_makeDs {R : FR} {pn : Str} {da : D} {ps : List (Str × D)} {es : List (D × D)} {x1 : Sl} (ha : Ev K ta s da s1) (ia : IsDict da (kwD ps)) (nd : (ps.map (·.1)).Nodup) (hp : pn ∉ ps.map (·.1))
    (hR : ∀ v, R ⟨[.res (insR K C (some v) []), .dat (frzD (kwD ps))], s1.g⟩ (.rt .none ⟨[.res (insR K C (some v) es), x1], s1.g⟩)) : Ev K (tMakeDs P w K C pn (spF K R) E ta) s (objD C es) s1 := fun σ H F fp e Q q p hpn =>
  dict_arg (P := P) (w := w) e ha ia hpn fun y H1 F1 fp1 ks h1 h2 h3 h4 e2 st2 t => ⟨ks, h1, h2, h3, by rw [h4]; exact nd, fun z hz ez => hp (by rw [← h4, ← ez]; exact List.mem_map_of_mem hz), make_call e2 t hR fun v H' F' fp' e' st av => q v H' F' fp' e' (st2.trans st) av⟩
theorem er_makeDs {R : FR} {pn : Str} {da : D} {ps : List (Str × D)} {sx : List Sl} {Cx : Addr} {fl : Str} (ha : Ev K ta s da s1) (ia : IsDict da (kwD ps)) (nd : (ps.map (·.1)).Nodup) (hp : pn ∉ ps.map (·.1))
    (hR : ∀ v, R ⟨[.res (insR K C (some v) []), .dat (frzD (kwD ps))], s1.g⟩ (.ex Cx fl d ⟨sx, s1.g⟩)) : EvR K E (tMakeDs P w K C pn (spF K R) E ta) s Cx fl d s1 := fun σ H F fp e Q q p hpn =>
  dict_arg (P := P) (w := w) e ha ia hpn fun y H1 F1 fp1 ks h1 h2 h3 h4 e2 st2 t => ⟨ks, h1, h2, h3, by rw [h4]; exact nd, fun z hz ez => hp (by rw [← h4, ← ez]; exact List.mem_map_of_mem hz), make_raise e2 t hR fun dd v H' F' fp' e' st hd av => q dd v H' F' fp' e' (st2.trans st) hd av⟩
/-- o.m(**d) -/
theorem ev_methDs {R : FR} {m pn : Str} {g : Addr} {da : D} {ps : List (Str × D)} {os : List (D × D)} (ho : Ev K ta s (objD C os) s1) (hn : dlook os (.inr m) = none) (ha : Ev K tb s1 da s2) (ia : IsDict da (kwD ps)) (nd : (ps.map (·.1)).Nodup) (hp : pn ∉ ps.map (·.1))
    (hR : R ⟨[.dat (objD C os), .dat (frzD (kwD ps))], s2.g⟩ (.rt d ⟨[.dat (objD C os), .dat (frzD (kwD ps))], s2.g⟩)) : Ev K (tMethDs P w K C m g pn (spF K R) E ta tb) s d s2 := fun σ H F fp e Q q =>
  ho σ H F fp e _ fun v H1 F1 fp1 e1 st1 a1 => by
    obtain ⟨a, dx, fs, rfl, h1, h2, t⟩ := obj_inv a1
    refine ⟨a, dx, fs, rfl, e1.ex _ _ h1, look_none t hn, fun q1 hq1 p hpn => ?_⟩
    have gr : Grow F1 H1 (upd F1 q1 (.met g a)) (upd H1 q1 (.met g a)) := Grow.laid e1.ex hq1
    have e1' := e1.grow gr
    have st1' := st1.trans (e1.growS gr)
    refine dict_arg (P := P) (w := w) e1' ha ia hpn fun y H2 F2 fp2 ks h1 h2 h3 h4 e2 st2 t2 => ?_
    have hm2 : F2 q1 = some (.met g a) := st2.ex _ _ upd_same
    have hne : q1 ≠ p := fun z => by rw [← z, upd_same] at hpn; cases hpn
    have hmH : H2 q1 = some (.met g a) := by
      have := e2.ex _ _ hm2
      rw [upd_ne hne] at this
      exact this
    refine ⟨ks, hmH, h1, h2, h3, by rw [h4]; exact nd, fun z hz ez => hp (by rw [← h4, ← ez]; exact List.mem_map_of_mem hz), ?_⟩
    exact kw_call e2 t2 ((a1.ex gr.f).ex st2.ex) hR fun v H' F' fp' e' st av => q v H' F' fp' e' ((st1'.trans st2).trans st) av
end
end DL

/-! a thing that is lent; constants; dict(list(d.items())) -/
namespace DL
open PySem PySem.Spec PyProof.Rows L2 KwX
section
variable {K : PySem.W.Frag} {P : Program} {w : World} {E : XK} {s s1 s2 s3 s' : S} {te ta tb ti : TE} {tt : TT} {t : TS} {d dr x y : D} {o : Out} {σ : L2.St} {H F H0 F0 : Hp} {fp fp0 : Fp} {C : Addr} {b : Bool}
/-- a thing that leans on nothing frozen -/
def Scal (r : Rs) : Prop := ∀ {F F' H : Hp} {P : Addr → Prop} {sv : Option (Option V)}, r.ok F H P sv → r.ok F' H P sv
theorem scal_ints {ov : Option V} {ns : List Int} : Scal (lstR K ov (ns.map PyData.int)) := fun {F F' H P sv} ⟨a, vs, h1, h2, h3, h4, h5⟩ => ⟨a, vs, h1, h2, h3, h4, by rw [h5.ints]; exact .of_ints⟩
def Ln (s : S) (i : Nat) : Prop := ∀ (j : Nat) (r : Rs), j ≠ i → s.s[j]? = some (.res r) → Scal r
theorem EnvW.lend {i : Nat} {ov : Option V} {x : Cell} {d : D} (e : EnvW K σ s H F fp) (hi : s.s[i]? = some (.res (cellR ov x))) (hd : ∀ {F : Hp} {a : Addr} {o : HO}, x.c F o → F a = some o → At K F (.ref a) d) (ln : Ln s i) :
    ∃ F1, EnvW K σ (s.set i (.dat d)) H F1 (fpSet fp (.inl i) noP) ∧ ∀ H' F' fp', EnvW K σ (s.set i (.dat d)) H' F' fp' → Step H F1 (fpSet fp (.inl i) noP) H' F' fp' → ∃ F2 fp2, EnvW K σ s H' F2 fp2 ∧ Step H F fp H' F2 fp2 := by
  obtain ⟨a, o, h1, hov, h2, h3, h4⟩ := e.sl i _ hi
  obtain ⟨n1, n2⟩ := x.nt h4
  have hfa : fp (.inl i) a := (h2 a).mpr rfl
  have hFa : F a = none := e.nf _ a hfa
  have eF : Ex F (upd F a o) := Ex.new hFa
  have hil : i < s.s.length := (List.getElem?_eq_some_iff.mp hi).1
  have nfa : ∀ j b, j ≠ .inl i → fp j b → b ≠ a := fun j b hj hb z => e.dj j (.inl i) b hj hb (z ▸ hfa)
  refine ⟨upd F a o, ⟨fun b u q => ?_, by simp [S.set, e.len], fun j y hj => ?_, e.tb, fun j k b hjk h1 h2 => ?_, fun j b hb => ?_, fun j b hb => ?_, fun b o q => ?_⟩, fun H' F' fp' e' st => ?_⟩
  · by_cases z : b = a
    · subst z; rw [upd_same] at q; cases q; exact h3
    · rw [upd_ne z] at q; exact e.ex b u q
  · by_cases z : j = i
    · subst z
      have e1 : (s.s.set j (.dat d))[j]? = some (.dat d) := List.getElem?_set_self hil
      rw [show (s.set j (.dat d)).s = s.s.set j (.dat d) from rfl, e1] at hj
      cases hj
      exact ⟨.ref a, h1, hd (x.mono eF h4) upd_same⟩
    · have e1 : (s.s.set i (.dat d))[j]? = s.s[j]? := List.getElem?_set_ne (Ne.symm z)
      rw [show (s.set i (.dat d)).s = s.s.set i (.dat d) from rfl, e1] at hj
      rw [fpSet_ne (by intro q; cases q; exact z rfl)]
      exact (e.sl j y hj).mono eF (fun _ _ => rfl) (fun _ _ h => h)
  · by_cases z : j = .inl i
    · subst z; rw [fpSet_same] at h1; exact h1
    · rw [fpSet_ne z] at h1
      by_cases y : k = .inl i
      · subst y; rw [fpSet_same] at h2; exact h2
      · rw [fpSet_ne y] at h2; exact e.dj j k b hjk h1 h2
  · by_cases z : j = .inl i
    · subst z; rw [fpSet_same] at hb; exact hb.elim
    · rw [fpSet_ne z] at hb; rw [upd_ne (nfa j b z hb)]; exact e.nf j b hb
  · by_cases z : j = .inl i
    · subst z; rw [fpSet_same] at hb; exact hb.elim
    · rw [fpSet_ne z] at hb; exact e.th j b hb
  · by_cases z : b = a
    · subst z; rw [upd_same] at q; cases q; exact n1
    · rw [upd_ne z] at q; exact e.nt b o q
  · have hF'a : F' a = some o := st.ex a o upd_same
    have hH'a : H' a = some o := e'.ex a o hF'a
    have nfp' : ∀ j, ¬ fp' j a := fun j hj => by rw [e'.nf j a hj] at hF'a; cases hF'a
    let F2 : Hp := fun b => if b = a then none else F' b
    have s1 : F2 a = none := if_pos rfl
    have s2 : ∀ b, b ≠ a → F2 b = F' b := fun b hb => if_neg hb
    have eF2 : Ex F F2 := fun b u q => by
      have hb : b ≠ a := fun z => by subst z; rw [hFa] at q; cases q
      rw [s2 b hb]
      exact st.ex b u (by rw [upd_ne hb]; exact q)
    refine ⟨F2, fpSet fp' (.inl i) (fun b => b = a), ⟨fun b u q => ?_, by have := e'.len; simpa [S.set] using this, fun j y hj => ?_, e'.tb, fun j k b hjk g1 g2 => ?_, fun j b hb => ?_, fun j b hb => ?_, fun b u q => ?_⟩, ⟨eF2, fun b g1 g2 g3 => ?_, fun b u g1 n g2 => ?_, fun j b hb => ?_, st.ext⟩⟩
    · by_cases z : b = a
      · subst z; rw [s1] at q; cases q
      · rw [s2 b z] at q; exact e'.ex b u q
    · by_cases z : j = i
      · subst z
        rw [hi] at hj
        cases hj
        rw [fpSet_same]
        exact ⟨a, o, h1, hov, fun b => Iff.rfl, hH'a, x.mono eF2 h4⟩
      · rw [fpSet_ne (by intro q; cases q; exact z rfl)]
        have e1 : (s.s.set i (.dat d))[j]? = some y := by rw [List.getElem?_set_ne (Ne.symm z)]; exact hj
        have w1 := e.sl j y hj
        have w2 := e'.sl j y e1
        cases y with
        | unk => trivial
        | dat d' => obtain ⟨v, q1, q2⟩ := w1; exact ⟨v, q1, q2.ex eF2⟩
        | vv v => exact w1
        | res r => exact ln j r z hj w2
    · by_cases z : j = .inl i
      · subst z
        rw [fpSet_same] at g1
        rw [fpSet_ne (Ne.symm hjk)] at g2
        exact nfp' k (g1 ▸ g2)
      · rw [fpSet_ne z] at g1
        by_cases y : k = .inl i
        · subst y; rw [fpSet_same] at g2; exact nfp' j (g2 ▸ g1)
        · rw [fpSet_ne y] at g2; exact e'.dj j k b hjk g1 g2
    · by_cases z : j = .inl i
      · subst z; rw [fpSet_same] at hb; subst hb; exact s1
      · rw [fpSet_ne z] at hb
        rw [s2 b fun w => nfp' j (w ▸ hb)]
        exact e'.nf j b hb
    · by_cases z : j = .inl i
      · subst z; rw [fpSet_same] at hb; subst hb; exact ⟨o, hH'a, n1⟩
      · rw [fpSet_ne z] at hb; exact e'.th j b hb
    · by_cases z : b = a
      · subst z; rw [s1] at q; cases q
      · rw [s2 b z] at q; exact e'.nt b u q
    · have hb : b ≠ a := fun z => g3 (.inl i) (z ▸ hfa)
      rw [s2 b hb]
      refine st.new b (by rw [upd_ne hb]; exact g1) g2 fun j hj => ?_
      by_cases z : j = .inl i
      · subst z; rw [fpSet_same] at hj; exact hj
      · rw [fpSet_ne z] at hj; exact g3 j hj
    · refine st.keep b u g1 n fun j hj => ?_
      by_cases z : j = .inl i
      · subst z; rw [fpSet_same] at hj; exact hj
      · rw [fpSet_ne z] at hj; exact g2 j hj
    · by_cases z : j = .inl i
      · subst z; rw [fpSet_same] at hb; subst hb; exact .inl ⟨.inl i, hfa⟩
      · rw [fpSet_ne z] at hb
        rcases st.fpn j b hb with ⟨k, hk⟩ | h
        · by_cases y : k = .inl i
          · subst y; rw [fpSet_same] at hk; exact hk.elim
          · rw [fpSet_ne y] at hk; exact .inl ⟨k, hk⟩
        · exact .inr h
def flatS : D → Bool
  | .none => true
  | .bool _ => true
  | .int _ => true
  | .str _ => true
  | _ => false
theorem At.flat {v : V} {F' : Hp} (h : At K F v d) (hf : flatS d = true) : At K F' v d := by
  cases h with
  | non => exact .non
  | bl b => exact .bl b
  | int i => exact .int i
  | str x => exact .str x
  | scr h => cases hf
  | obj h1 h2 t => cases hf
  | zic h1 t => cases hf
  | dic h1 t => cases hf
  | lst h1 t => cases hf
  | tup h1 t => cases hf
/-- an expression that only reads an owned thing and comes to a plain value -/
theorem ev_lend {i : Nat} {ov : Option V} {x : Cell} (hi : s.s[i]? = some (.res (cellR ov x))) (hd : ∀ {F : Hp} {a : Addr} {o : HO}, x.c F o → F a = some o → At K F (.ref a) d) (ln : Ln s i) (h : Ev K te (s.set i (.dat d)) dr (s.set i (.dat d))) (hf : flatS dr = true) : Ev K te s dr s := fun σ H F fp e Q q => by
  obtain ⟨F1, e1, back⟩ := e.lend hi hd ln
  refine h σ H F1 _ e1 _ fun v H' F' fp' e' st a => ?_
  obtain ⟨F2, fp2, e2, st2⟩ := back H' F' fp' e' st
  exact q v H' F2 fp2 e2 st2 (a.flat hf)
theorem et_lend {i : Nat} {ov : Option V} {x : Cell} (hi : s.s[i]? = some (.res (cellR ov x))) (hd : ∀ {F : Hp} {a : Addr} {o : HO}, x.c F o → F a = some o → At K F (.ref a) d) (ln : Ln s i) (h : EvT K tt (s.set i (.dat d)) b (s.set i (.dat d))) : EvT K tt s b s := fun σ H F fp e Q q => by
  obtain ⟨F1, e1, back⟩ := e.lend hi hd ln
  refine h σ H F1 _ e1 _ fun H' F' fp' e' st => ?_
  obtain ⟨F2, fp2, e2, st2⟩ := back H' F' fp' e' st
  exact q H' F2 fp2 e2 st2
theorem dct_dat {ds : List (D × D)} {F : Hp} {a : Addr} {o : HO} (h : (dctC K ds).c F o) (hF : F a = some o) : At K F (.ref a) (.dict ds) := by
  obtain ⟨kvs, rfl, t⟩ := h
  exact .dic hF t
theorem ev_const {v : V} (h : ∀ F, At K F v d) : Ev K (tC v) s d s := fun σ H F fp E Q q => q _ H F fp E (Step.refl _ _ _) (h F)
/-! ### dict(list(d.items())) -/
def rDictP (K : PySem.W.Frag) : List V → Hp → VK → Prop := fun xs H Q => ∃ (a : Addr) (ps : List Addr) (kvs : List (Key × V)), xs = [.ref a] ∧ SqL K H a (ps.map V.ref) ∧ Paired (fun p kv => SqT K H p [kV kv.1, kv.2]) ps kvs ∧
    ∀ p, H p = none → Q (.ref p) (upd H p (.dK (mergeK [] kvs)))
theorem call_dictPU {X : Cx} (hc : X.calm = true) : CallR X (.type "dict") (rDictP X.K) := call_dictP hc
theorem EnvW.growE {H' : Hp} (E : EnvW K σ s H F fp) (x : Ex H H') : EnvW K σ s H' F fp where
  ex := E.ex.trans x
  len := E.len
  sl := fun i y h => (E.sl i y h).mono (Ex.refl F) (fun b hb => (E.th _ b hb).get x) (ExtKeep.of x)
  tb := E.tb.ext x
  dj := E.dj
  nf := E.nf
  th := fun i b h => (E.th i b h).ex x
  nt := E.nt
theorem Step.growE {H' : Hp} (x : Ex H H') : Step H F fp H' F fp :=
  ⟨Ex.refl F, fun _ h _ _ => h, fun b u h _ _ => x b u h, fun i b h => .inl ⟨i, h⟩, ExtKeep.of x⟩
theorem paired_map {α β : Type} {R S : α → β → Prop} (h : ∀ a b, R a b → S a b) : ∀ {xs : List α} {ys : List β}, Paired R xs ys → Paired S xs ys
  | _, _, .nil => .nil
  | _, _, .cons r t => .cons (h _ _ r) (paired_map h t)
theorem nodup_of_map {α β : Type} {f : α → β} : ∀ {l : List α}, (l.map f).Nodup → l.Nodup
  | [], _ => .nil
  | a :: l, h => by
    rw [List.map_cons, List.nodup_cons] at h
    exact List.nodup_cons.mpr ⟨fun z => h.1 (List.mem_map_of_mem z), nodup_of_map h.2⟩
theorem atkv_nodup {kvs : List (Key × V)} {ds : List (D × D)} (t : AtKV K F kvs ds) (h : (ds.map (·.1)).Nodup) : (kvs.map (·.1)).Nodup := by
  have e := atKV_keys t
  have : ds.map (·.1) = (kvs.map (·.1)).map keyD := by rw [e, List.map_map]; rfl
  rw [this] at h
  exact nodup_of_map h
theorem eo_dcopy {ds : List (D × D)} (h : Ev K te s (.dict ds) s1) (hn : (ds.map (·.1)).Nodup) (ho : ∀ d, ds.head? = some d → ∃ k, d.1 = keyD k) : EvO K (tCB (rDictP K) (tCons (LiI.tListItems te) tNil)) s (dctR K none ds) s1 := fun σ H F fp e Q q =>
  h σ H F fp e _ fun v H1 F1 fp1 e1 st1 a1 => by
    cases a1 with
    | @dic a kvs ds' h1 t =>
      refine ⟨a, kvs, rfl, e1.ex _ _ h1, fun H2 p ts x hp hts hpt hl hpd => ⟨p, ts, kvs, rfl, .inl (.inl hl), paired_map (fun t q hq => .inl (.inl hq)) hpd, fun p' hp' => ?_⟩⟩
      rw [mergeK_nil (atkv_nodup t hn)]
      have e2 := e1.growE x
      have st2 := st1.trans (Step.growE (F := F1) (fp := fp1) x)
      exact cell_new (x := dctC K ds) rfl e2 st2 hp' ⟨kvs, rfl, t⟩ q
    | scr h1 => obtain ⟨k, hk⟩ := ho _ rfl; cases k <;> cases hk
    | obj h1 h2 t => obtain ⟨k, hk⟩ := ho _ rfl; cases k <;> cases hk
    | zic h1 t => obtain ⟨k, hk⟩ := ho _ rfl; cases k <;> cases hk
end
end DL

namespace DL
open PySem PySem.Spec PyProof.Rows L2 KwX
section
variable {K : PySem.W.Frag} {P : Program} {w : World} {E : XK} {s s0 s1 s2 s3 s' : S} {te ta tb ti : TE} {tt : TT} {t : TS} {d dr x y : D} {o : Out} {σ : L2.St} {H F H0 F0 : Hp} {fp fp0 : Fp} {C : Addr} {b : Bool} {wi : TI} {g : TG}
/-- a loop that ends at the first one with p -/
theorem run_forFind {ds : List D} {d0 : D} (p : D → Bool) (hw : IterD K wi s ds s1) (h0 : SLe s1 s0) (hp : ds.find? p = some d0) (hs : ∀ d, d ∈ ds → p d = false → ∃ s2, Tg K g s0 d s2 ∧ Run K E t s2 (.nx s0))
    (hr : ∃ s2 o', Tg K g s0 d0 s2 ∧ Run K E t s2 o' ∧ o'.ends = true ∧ o = o'.out) : Run K E (tFor wi g t) s o := by
  obtain ⟨h1, as, bs, rfl, h2⟩ := List.find?_eq_some_iff_append.mp hp
  refine run_forG (fun _ => s0) as.length hw h0 (by simp) (fun i d hi hd => ?_) (.inr ?_)
  · rw [List.getElem?_append_left hi] at hd
    have hm := List.mem_of_getElem? hd
    exact hs d (List.mem_append_left _ hm) (by simpa using h2 d hm)
  · obtain ⟨s2, o', q⟩ := hr
    exact ⟨d0, s2, o', by simp, q⟩
/-- .. and one that finds none -/
theorem run_forNone {ds : List D} (p : D → Bool) (hw : IterD K wi s ds s1) (h0 : SLe s1 s0) (hp : ds.find? p = none) (hs : ∀ d, d ∈ ds → p d = false → ∃ s2, Tg K g s0 d s2 ∧ Run K E t s2 (.nx s0)) : Run K E (tFor wi g t) s (.nx s0) :=
  run_forAll p hw h0 (fun d hd => by simpa using List.find?_eq_none.mp hp d hd) hs
/-- o.m(..) -/
theorem ev_meth {R : FR} {tk : TA} {m : Str} {ds : List D} {os : List (D × D)} (ho : Ev K ta s (objD C os) s1) (hn : dlook os (.inr m) = none) (hk : EvA K tk s1 ds s2)
    (hR : R ⟨(objD C os :: ds).map .dat, s2.g⟩ (.rt d ⟨(objD C os :: ds).map .dat, s2.g⟩)) : Ev K (tMeth C m (spF K R) [] E ta tk) s d s2 := fun σ H F fp e Q q =>
  ho σ H F fp e _ fun v H1 F1 fp1 e1 st1 a1 => by
    obtain ⟨a, dx, fs, rfl, h1, h2, t⟩ := obj_inv a1
    refine ⟨a, dx, fs, rfl, e1.ex _ _ h1, look_none t hn, hk σ H1 F1 fp1 e1 _ fun zs H2 F2 fp2 e2 st2 a2 => ?_⟩
    rw [List.append_nil]
    refine ⟨_, F2, noF, _, env_dat (ds := objD C os :: ds) e2 (.cons (a1.ex st2.ex) a2), hR, fun v H' F' fp' e' st a => ?_⟩
    obtain ⟨e3, st3⟩ := frame0 e2 e' st rfl
    exact q v H' F' fp2 e3 ((st1.trans st2).trans st3) a
/-- an own class, for isinstance -/
structure ObC (K : PySem.W.Frag) (C : Addr) : Prop where
  cl : Cls K C
  ca : PySem.W.findIn K (.ref C) "__class__" = some (some (.builtin "object.__class__"))
  cg : PySem.W.specialIn K (.builtin "object.__class__") "__get__" = some (some (.builtin "getset_descriptor.__get__"))
  ct : PySem.W.takesIn K (.builtin "object.__class__") = some true
  co : PySem.W.mroIn K C (.type "object") = some true
  k1 : PySem.W.kitOne K (.type "NoneType") (.ref C) = some false
  k2 : PySem.W.kitOne K (.type "bool") (.ref C) = some false
  k3 : PySem.W.kitOne K (.type "int") (.ref C) = some false
  k4 : PySem.W.kitOne K (.type "str") (.ref C) = some false
  k5 : PySem.W.kitOne K (.type "list") (.ref C) = some false
  k6 : PySem.W.kitOne K (.type "tuple") (.ref C) = some false
  k7 : PySem.W.kitOne K (.type "dict") (.ref C) = some false
theorem kit_self {K : PySem.W.Frag} {C : Addr} : PySem.W.kitOne K (.ref C) (.ref C) = some true := by
  unfold PySem.W.kitOne
  simp
theorem ev_iscY {os : List (D × D)} (h : Ev K te s (objD C os) s1) (c : ObC K C) : Ev K (tCB (rIsi K) (tCons te (tCons (tC (.ref C)) tNil))) s (.bool true) s1 := fun σ H F fp E Q q =>
  h σ H F fp E _ fun v H1 F1 fp1 E1 st1 a1 => by
    obtain ⟨a, dx, fs, rfl, h1, h2, t⟩ := obj_inv a1
    exact ⟨.ref a, .ref C, .ref C, .ref C, true, rfl, .own C, .base (.ins (E1.ex _ _ h1) c.cl c.ca c.cg c.ct c.co), kit_self, q _ H1 F1 fp1 E1 st1 (.bl _)⟩
theorem ev_iscN (h : Ev K te s d s1) (hn : noScr d = true) (c : ObC K C) : Ev K (tCB (rIsi K) (tCons te (tCons (tC (.ref C)) tNil))) s (.bool false) s1 := fun σ H F fp E Q q =>
  h σ H F fp E _ fun v H1 F1 fp1 E1 st1 a1 => by
    refine ⟨v, .ref C, .type (tyD d), .ref C, false, rfl, .own C, at_ty E1.ex a1 hn, ?_, q _ H1 F1 fp1 E1 st1 (.bl _)⟩
    cases d
    · exact c.k1
    · exact c.k2
    · exact c.k3
    · exact c.k4
    · exact c.k5
    · exact c.k6
    · exact c.k7
/-! ### texts of numbers -/
def strOk : List D → Prop
  | [.int i] => i.natAbs.log2 < 1920
  | [.str _] => True
  | _ => False
def strD : List D → D
  | [.int i] => .str (toString i)
  | [.str x] => .str x
  | _ => .none
theorem call_strU {X : Cx} : CallR X (.type "str") (rDn X.K strOk strD) := by
  intro pins s σ H xs us Q I r ⟨F, ds, e, hx, ok, k⟩
  match ds, ok with
  | [.int i], o1 =>
    cases hx with
    | cons h1 h2 =>
      cases h2
      obtain rfl := h1.int
      exact call_str_int pins s σ H _ us Q I r ⟨i, rfl, o1, k _ H F (Grow.refl e) (.str _)⟩
  | [.str x], _ =>
    cases hx with
    | cons h1 h2 =>
      cases h2
      obtain rfl := h1.str
      exact SkE.call_str_str pins s σ H _ us Q I r ⟨x, rfl, k _ H F (Grow.refl e) (.str _)⟩
theorem ev_strI {i : Int} (h : Ev K te s (.int i) s1) (hi : i.natAbs.log2 < 1920) : Ev K (tCB (rDn K strOk strD) (tCons te tNil)) s (.str (toString i)) s1 := ev_cb (ea_cons h ea_nil) hi
theorem ev_addS {a b : Str} (ha : Ev K ta s (.str a) s1) (hb : Ev K tb s1 (.str b) s2) (h : a.length + b.length ≤ sizeLine) : Ev K (tOp (rD2 K addOk addD) ta tb) s (.str (a ++ b)) s2 := ev_op ha hb h
/-- f'..' -/
def EvJ (K : PySem.W.Frag) (ts : List TE) (s : S) (xs : List Str) (s' : S) : Prop := ∀ (acc : Str) σ H F fp, EnvW K σ s H F fp → (acc.length + (xs.map (·.length)).sum ≤ sizeLine) → ∀ Q : Str → Hp → Prop, (∀ H' F' fp', EnvW K σ s' H' F' fp' → Step H F fp H' F' fp' → Q (xs.foldl (· ++ ·) acc) H') → tJs ts acc σ H Q
theorem str_len {a b : Str} : (a ++ b).length = a.length + b.length := by
  show (a.cps ++ b.cps).size = a.cps.size + b.cps.size
  exact Array.size_append
theorem ej_nil : EvJ K [] s [] s := fun acc σ H F fp e hl Q q => q H F fp e (Step.refl _ _ _)
theorem ej_cons {x : Str} {xs : List Str} {ts : List TE} (h : Ev K te s (.str x) s1) (hr : EvJ K ts s1 xs s2) : EvJ K (te :: ts) s (x :: xs) s2 := fun acc σ H F fp e hl Q q =>
  h σ H F fp e _ fun v H1 F1 fp1 e1 st1 a1 => by
    cases a1
    rw [List.map_cons, List.sum_cons] at hl
    refine ⟨x, rfl, by rw [str_len]; omega, ?_⟩
    exact hr (acc ++ x) σ H1 F1 fp1 e1 (by rw [str_len]; omega) Q fun H' F' fp' e' st => q H' F' fp' e' (st1.trans st)
theorem ev_join {xs : List Str} {ts : List TE} (h : EvJ K ts s xs s1) (hl : (xs.map (·.length)).sum ≤ sizeLine) : Ev K (fun σ H Q => tJs ts Str.empty σ H fun out H1 => Q (.str out) H1) s (.str (xs.foldl (· ++ ·) Str.empty)) s1 := fun σ H F fp e Q q =>
  h Str.empty σ H F fp e (by show 0 + _ ≤ _; omega) _ fun H' F' fp' e' st => q _ H' F' fp' e' st (.str _)
theorem ev_fmtS {x : Str} (h : Ev K te s (.str x) s1) (hl : x.length ≤ sizeLine) : Ev K (tFmt te) s (.str x) s1 := fun σ H F fp e Q q =>
  h σ H F fp e _ fun v H1 F1 fp1 e1 st1 a1 => by
    cases a1
    exact .inl ⟨x, rfl, hl, q _ H1 F1 fp1 e1 st1 (.str _)⟩
theorem ev_fmtI {i : Int} (h : Ev K te s (.int i) s1) (hi : i.natAbs.log2 < 1920) : Ev K (tFmt te) s (.str (toString i)) s1 := fun σ H F fp e Q q =>
  h σ H F fp e _ fun v H1 F1 fp1 e1 st1 a1 => by
    cases a1
    exact .inr ⟨i, rfl, hi, q _ H1 F1 fp1 e1 st1 (.str _)⟩
end
end DL

/-! written dicts as data -/
namespace DL
open PySem PySem.Spec PyProof.Rows L2 KwX
def WrDat (P : Program) (w : World) (K : PySem.W.Frag) (a : Addr) (ds : List (D × D)) : Prop := ∃ kvs, WrD P w K a kvs ∧ ∀ F, AtKV K F kvs ds
section
variable {K : PySem.W.Frag} {P : Program} {w : World} {E : XK} {s s0 s1 s2 s3 s' : S} {te ta tb ti : TE} {d : D} {a : Addr} {ds : List (D × D)}
theorem look_some {F : Hp} {kvs : List (Key × V)} {k : Key} (t : AtKV K F kvs ds) : (valV kvs k).isSome = (dlook ds k).isSome := by
  cases h : dlook ds k with
  | none => rw [t.look.2 h]; rfl
  | some x =>
    obtain ⟨y, h1, _⟩ := t.look.1 x h
    rw [h1]; rfl
theorem ev_inWD {k : Key} {neg : Bool} (hW : WrDat P w K a ds) (hx : Ev K ta s (keyD k) s1) : Ev K (tOp (rInDR P w K neg) ta (tC (.ref a))) s (.bool (if neg = true then !(dlook ds k).isSome else (dlook ds k).isSome)) s1 := by
  obtain ⟨kvs, h1, h2⟩ := hW
  have := ev_inW (neg := neg) h1 hx
  rw [look_some (h2 (fun _ => none))] at this
  exact this
theorem ev_ixWD {k : Key} (hW : WrDat P w K a ds) (hb : Ev K tb s (keyD k) s1) (h : dlook ds k = some d) : Ev K (tOp (rIxDR P w K) (tC (.ref a)) tb) s d s1 := by
  obtain ⟨kvs, h1, h2⟩ := hW
  obtain ⟨v, hv, _⟩ := (h2 (fun _ => none)).look.1 d h
  refine ev_ixW h1 hb hv fun F => ?_
  obtain ⟨v', hv', hat⟩ := (h2 F).look.1 d h
  rw [hv] at hv'
  cases hv'
  exact hat
theorem ev_mrgWD {db : D} {pa pb : List (Key × D)} (hW : WrDat P w K a (kdL pa)) (hb : Ev K tb s db s2) (ib : IsDict db (kdL pb)) (hl : pa.length + pb.length ≤ sizeLine) :
    EvO K (tMrg P w K (tC (.ref a)) tb) s (dctR K none (dmerge (dmerge [] pa) pb)) s2 := by
  obtain ⟨kvs, h1, h2⟩ := hW
  exact ev_mrgW h1 h2 hb ib hl
end
end DL

/-! try .. except X as e with the slots; own == -/
namespace KwX
open PySem PySem.Spec PySem.W PyProof.Rows L2 DL
/-- a call by keywords, its wish by the slots -/
def tCallMS (sp : Sp) (n m : Nat) (p : List Nat) (E : L2.St → XK) (t tk : TA) : TE := fun σ H Q => tCallM sp n m p (E σ) t tk σ H Q
section
variable {X : Cx} {CX : CXT} {k n : Nat} {f : Addr} {fd : FuncData} {ps ks : List Str} {sp : Sp} {E : L2.St → XK} {x : Str} {p pos : Pos} {kws : List Keyword} {t tk : TA} {pm : List Nat}
theorem run_fnMS {pins : List (Addr × Obj)} {σ : L2.St} {H : Hp} {s : Shared} {Q : VK} {us ws : List Value} {vs zs : List V} (F : FnOk X.prog X.w X.K X.mg X.base CX k f fd ps sp) (hr : Room k X.A) (hb : KwB X.K fd ps ks n pm) (hx : PassesAt CX X σ (E σ))
    (I : Inv X pins σ H s) (r : Vals vs us) (rz : Vals zs ws) (l1 : vs.length = n) (l2 : zs.length = ks.length) (h : sp (arr .non pm (vs ++ zs)) H Q (E σ)) : wpAny (model X.prog X.w) X.A (call (.ref f) us (ks.zip ws)) (EP X pins σ Q) X.xe s := by
  have r2 := vals_arr (p := pm) (r.append rz) (fun i hi => by rw [List.length_append, l1, l2]; exact hb.lt i hi)
  refine wpAny_call (codeAny_mono (F.run X.A X.stack s H ⟨us, ks.zip ws⟩ _ _ Q (E σ) hr I.env0 (hb.to s us ws (r.length.symm.trans l1) (rz.length.symm.trans l2)) r2 h) fun r s' hq => ?_)
  cases r with
  | error e => exact hx pins H s e s' I hq
  | ok fl =>
    cases fl with
    | ret u => exact I.after hq
    | next => exact False.elim hq
    | brk => exact False.elim hq
    | cont => exact False.elim hq
theorem pe_callM0S (F : FnOk X.prog X.w X.K X.mg X.base CX k f fd ps sp) (hr : Room k X.A) (hg : Gl X x) (hm : X.mg x = some (.ref f)) (hk : PySem.W.keepIn X.K (.ref f) = true) (hb : KwB X.K fd ps ks 0 pm) (hx : ∀ σ, PassesAt CX X σ (E σ))
    (hkw : PK X kws tk) (hall : (backToKw pos (keywordEach kws X.env)).all (·.1.isSome) = true := by rfl) (hks : (backToKw pos (keywordEach kws X.env)).filterMap (·.1) = ks := by rfl)
    (hdb : (x == ("__debug__" : Str)) = false := by decide)
    (hpl : ((backTo pos (starEach [] X.env)).any (·.1) || (backToKw pos (keywordEach kws X.env)).any (·.1.isNone)) = false := by rfl)
    {m : Nat} (hl : ks.length = m := by rfl) : PE X (.Call (.Name x p) [] kws pos) (tCallMS sp 0 m pm E tNil tk) := by
  subst hl
  refine ⟨fun pins s σ H Q I h => ?_⟩
  refine wpAny_Call_Name_kw (ld_glob I hg hm ?_ hdb)
  refine PySem.W.callWith_KW0 (h₀ := X.base) I.ok.mod.kin hk hall ?_ hpl
  refine thn (hkw.run pos pins s σ H _ I h) fun ws s2 ⟨zs, H2, I2, rz, l1, l2, q2⟩ => ⟨I2.kIn, ?_⟩
  rw [hks]
  exact run_fnMS F hr hb (hx σ) I2 .nil rz l1 l2 q2
end
/-! ### isinstance(e, c), e the caught one -/
structure ExcCh (K : PySem.W.Frag) (D : Addr) : Prop where
  cl : (PySem.W.clsIn K D).isSome = true
  hg : PySem.W.findIn K (.ref D) "__getattribute__" = some (some (.builtin "BaseException.__getattribute__"))
  hk : PySem.W.findIn K (.ref D) "__getattr__" = some none
  hs : PySem.W.subIn K (.ref D) (.type "BaseException") = some true
  ha : PySem.W.findIn K (.ref D) "__class__" = some (some (.builtin "object.__class__"))
  hn : PySem.W.specialIn K (.builtin "object.__class__") "__get__" = some (some (.builtin "getset_descriptor.__get__"))
  ht : PySem.W.takesIn K (.builtin "object.__class__") = some true
  hm : PySem.W.mroIn K D (.type "object") = some true
def rIsX (K : PySem.W.Frag) (D a : Addr) (cls : Value) (d : Option Addr) : List V → Hp → VK → Prop := fun xs H Q => ∃ (c : V) (cv : Value) (b : Bool) (fs : List (Str × V)) (dd : Addr), cls = .ref D ∧ d = some dd ∧ xs = [.ref a, c] ∧ H dd = some (.xd fs) ∧ ClsV c cv ∧ PySem.W.kitOne K (.ref D) cv = some b ∧ Q (.bl b) H
theorem call_isX {X : Cx} {a D : Addr} {cls : Value} {d : Option Addr} {oe : Obj} {pn : List (Addr × Obj)} (C : ExcCh X.K D) (hz : Zc cls d oe) (hf : ∃ vs, oe.data = .fields vs) : CallR (X.suite a ((a, oe) :: pn)) (.builtin "isinstance") (rIsX X.K D a cls d) := by
  intro pins s σ H xs us Q I r h
  obtain ⟨c, cv, b, fs, dd, rfl, rfl, rfl, hdd, hcv, e, q⟩ := h
  cases r with
  | cons rx rr =>
    cases rr with
    | cons rt rr =>
      cases rr
      cases rx
      have ec := hcv.eq rt
      subst ec
      obtain ⟨hget, _⟩ := I.pin (a, oe) (List.mem_append.mpr (.inl List.mem_cons_self))
      obtain ⟨vs, hv⟩ := hf
      have hx : ObjOk X.prog X.w H s.heap dd (.xd fs) := I.hok dd _ hdd
      obtain ⟨mm, hns, _⟩ := hx
      obtain ⟨od, _, _, hod, _⟩ := hns
      have J : PySem.W.InstAt s.heap a oe D (some od) := by
        obtain ⟨oc, od', oda, osl⟩ := oe
        obtain ⟨h1, h2⟩ := hz
        dsimp only at h1 h2 hv
        subst h1 h2 hv
        exact ⟨hget, rfl, rfl, hod⟩
      exact PySem.W.kia_one (PySem.W.kitx_exc C.cl C.hg C.hk C.hs C.ha C.hn C.ht C.hm) I.kIn J e (fun z => nomatch z) fun tk => ⟨.bl b, H, I.kept (t' := tk) fun _ _ z => z, rfl, q⟩
/-! ### own == -/
def rEqI (C : Addr) (sp : Sp) (E : XK) : R2 := fun x y H Q => ∃ a b dx dy fs gs, x = .ref a ∧ y = .ref b ∧ H a = some (.ins C dx fs) ∧ H b = some (.ins C dy gs) ∧ sp [x, y] H (fun v H' => ∃ r, v = .bl r ∧ Q v H') E
section
variable {X : Cx} {CX : CXT} {C f : Addr} {fd : FuncData} {ps : List Str} {sp : Sp} {E : XK} {n : Nat}
theorem op_eqI (F : FnOk X.prog X.w X.K X.mg X.base CX n f fd ps sp) (me : Meth X.K C "__eq__" f) (hb : L2.Binds X.K fd ps []) (hx : Passes CX X E) (hr : Room n X.A) : OpR X (compareOp .Eq) (rEqI C sp E) := by
  intro pins s σ H x y v u Q I rx ry hq
  show wpAny (model X.prog X.w) X.A (richCompare .Eq v u) (EP X pins σ Q) X.xe s
  obtain ⟨a, b, dx, dy, fs, gs, rfl, rfl, ha, hb', hsp⟩ := hq
  cases rx
  cases ry
  obtain ⟨mA, J, _⟩ := ins_get I.hok ha
  obtain ⟨mB, J', _⟩ := ins_get I.hok hb'
  obtain ⟨od, J, _⟩ := J.look
  obtain ⟨od', J', _⟩ := J'.look
  obtain ⟨m, hF⟩ := I.fr
  refine PySem.W.cmp_K (op := .Eq) (tb := .ref C) hr.units0 hF I.ok.mod.kin J J'.type (by simp [PySem.W.notFirst]) me.at_ me.fn ?_
  have hl := F.len _ _ _ _ hsp
  have r2 : Vals [V.ref a, V.ref b] [Value.ref a, Value.ref b] := .cons rfl (.cons rfl .nil)
  refine wpAny_call (codeAny_mono (F.run X.A X.stack s H ⟨[.ref a, .ref b], []⟩ [.ref a, .ref b] [.ref a, .ref b] _ E hr I.env0 (by
    have := hb s [.ref a, .ref b] I.kIn (by simpa using hl)
    simpa using this) r2 hsp) fun r s' hq => ?_)
  cases r with
  | error e => exact hx pins σ H s e s' I hq
  | ok fl =>
    cases fl with
    | ret w =>
      obtain ⟨z, H', I', rz, rr, ez, hQ⟩ := I.after hq
      subst ez
      cases rz
      exact ⟨.bl rr, H', I', rfl, hQ⟩
    | next => exact False.elim hq
    | brk => exact False.elim hq
    | cont => exact False.elim hq
end
end KwX
namespace DL
open PySem PySem.Spec PyProof.Rows L2 KwX
section
variable {K : PySem.W.Frag} {P : Program} {w : World} {E : XK} {s s0 s1 s2 s3 s' : S} {te ta tb ti : TE} {tt : TT} {t : TS} {d dr x y : D} {o : Out} {σ : L2.St} {H F H0 F0 : Hp} {fp fp0 : Fp} {C : Addr} {b : Bool}
theorem ev_eqIns {R : FR} {os os' : List (D × D)} (ha : Ev K ta s (objD C os) s1) (hb : Ev K tb s1 (objD C os') s2) (hR : R ⟨[.dat (objD C os), .dat (objD C os')], s2.g⟩ (.rt (.bool b) ⟨[.dat (objD C os), .dat (objD C os')], s2.g⟩)) :
    Ev K (tOp (rEqI C (spF K R) E) ta tb) s (.bool b) s2 := fun σ H F fp e Q q =>
  ha σ H F fp e _ fun v H1 F1 fp1 e1 st1 a1 => hb σ H1 F1 fp1 e1 _ fun v2 H2 F2 fp2 e2 st2 a2 => by
    have a1' := a1.ex st2.ex
    obtain ⟨a, dx, fs, rfl, h1, _, _⟩ := obj_inv a1'
    obtain ⟨a', dx', fs', rfl, h1', _, _⟩ := obj_inv a2
    refine ⟨a, a', dx, dx', fs, fs', rfl, rfl, e2.ex _ _ h1, e2.ex _ _ h1', _, F2, noF, _, env_dat (ds := [objD C os, objD C os']) e2 (.cons a1' (.cons a2 .nil)), hR, fun v H' F' fp' e' st a => ?_⟩
    obtain ⟨e3, st3⟩ := frame0 e2 e' st rfl
    cases a
    exact ⟨b, rfl, q _ H' F' fp2 e3 ((st1.trans st2).trans st3) (.bl b)⟩
/-! ### try -/
def tTry (K : PySem.W.Frag) (c : Value) (i : Nat) (tb : WX → TS) (ts : Addr → Value → Option Addr → TS) (Wout : WX) : TS := fun D σ H => tb (wAs K c i ts Wout D) D σ H
theorem ps_tryAs {X : Cx} {x n : Str} {c : Value} {i : Nat} {body suite : List Stmt} {b₀ : Stmt} {np pos pos' : Pos} {tb : WX → TS} {ts : Addr → Value → Option Addr → TS} {Wout : WX} (hs : X.stack = X.env :: X.outer) (hf : X.env.frame = some X.env.locals) (hN : X.N.Nodup) (hi : X.N[i]? = some n) (hln : X.env.kindOf n = some .local) (hc : Names X x c) (tk : Takes X Wout)
    (hb : ∀ (W : WX) (pn : List (Addr × Obj)) (xe : Value → Shared → Prop), Takes (X.tr pn xe) W → PassesOwn (model X.prog X.w) X.A X.env xe → PSs (X.tr pn xe) body (tb W))
    (hsu : ∀ (a : Addr) (oe : Obj) (cls : Value) (d : Option Addr) (pn : List (Addr × Obj)), Zc cls d oe → (∃ vs, oe.data = .fields vs) → PSs (X.suite a ((a, oe) :: pn)) (b₀ :: suite) (ts a cls d)) :
    PS X (.Try body [.ExceptHandler (some (.Name x np)) (some n) (b₀ :: suite) pos'] [] [] pos) (tTry X.K c i tb ts Wout) := ps_try_as hs hf hN hi hln hc tk hb hsu
theorem run_tryOk {c : Value} {i : Nat} {tb : WX → TS} {ts : Addr → Value → Option Addr → TS} {Wout : WX} (h : ∀ W, Run K E (tb W) s o) : Run K E (tTry K c i tb ts Wout) s o := fun σ H F fp e Ed q => h _ σ H F fp e Ed q
/-- knowing the caught exception's dict -/
def EvU (K : PySem.W.Frag) (dd : Addr) (fl : Str) (x : D) (te : TE) (s : S) (d : D) (s' : S) : Prop := ∀ σ H F fp, EnvW K σ s H F fp → (∃ v, F dd = some (.xd [(fl, v)]) ∧ At K F v x) → ∀ Q : VK, (∀ v H' F' fp', EnvW K σ s' H' F' fp' → Step H F fp H' F' fp' → At K F' v d → Q v H') → te σ H Q
theorem evu_ev {dd : Addr} {fl : Str} (h : Ev K te s d s1) : EvU K dd fl x te s d s1 := fun σ H F fp e _ Q q => h σ H F fp e Q q
theorem evu_xf {a dd : Addr} {fl : Str} {i : Nat} (hi : s.s[i]? = some (.vv (.ref a))) : EvU K dd fl x (tXf a (.ref C) (some dd) C fl (tVar i)) s x s := fun σ H F fp e ⟨v, h1, h2⟩ Q q => by
  have z := e.sl i _ hi
  exact ⟨.ref a, z, rfl, rfl, dd, [(fl, v)], v, rfl, e.ex _ _ h1, by simp [List.lookup], q v H F fp e (Step.refl _ _ _) h2⟩
theorem evu_is {a dd : Addr} {fl : Str} {i : Nat} {c : V} {cv : Value} (hi : s.s[i]? = some (.vv (.ref a))) (hc : ClsV c cv) (hb : PySem.W.kitOne K (.ref C) cv = some b) : EvU K dd fl x (tCB (rIsX K C a (.ref C) (some dd)) (tCons (tVar i) (tCons (tC c) tNil))) s (.bool b) s := fun σ H F fp e ⟨v, h1, h2⟩ Q q => by
  have z := e.sl i _ hi
  exact ⟨.ref a, z, c, cv, b, [(fl, v)], dd, rfl, rfl, rfl, e.ex _ _ h1, hc, hb, q _ H F fp e (Step.refl _ _ _) (.bl b)⟩
theorem evu_op {dd : Addr} {fl : Str} {ok : D → D → Prop} {f : D → D → D} {y : D} (ha : EvU K dd fl x ta s y s1) (hb : EvU K dd fl x tb s1 d s2) (h : ok y d) : EvU K dd fl x (tOp (rD2 K ok f) ta tb) s (f y d) s2 := fun σ H F fp E ⟨v, u1, u2⟩ Q q =>
  ha σ H F fp E ⟨v, u1, u2⟩ _ fun vx H1 F1 fp1 E1 st1 a1 => hb σ H1 F1 fp1 E1 ⟨v, st1.ex _ _ u1, u2.ex st1.ex⟩ _ fun vy H2 F2 fp2 E2 st2 a2 =>
    ⟨F2, y, d, E2.ex, .inl (a1.ex st2.ex), .inl a2, h, fun v H' F' g a => q v H' F' fp2 (E2.grow g) ((st1.trans st2).trans (E2.growS g)) a⟩
theorem evu_and {dd : Addr} {fl : Str} {a b : Bool} (h1 : EvU K dd fl x ta s (.bool a) s1) (h2 : a = true → EvU K dd fl x tb s1 (.bool b) s1) : EvU K dd fl x (tAndV ta tb) s (.bool (a && b)) s1 := fun σ H F fp E ⟨v, u1, u2⟩ Q q =>
  h1 σ H F fp E ⟨v, u1, u2⟩ _ fun v' H1 F1 fp1 E1 st1 a1 => by
    cases a1
    refine ⟨a, rfl, ?_⟩
    cases a with
    | true =>
      show tb σ H1 Q
      exact h2 rfl σ H1 F1 fp1 E1 ⟨v, st1.ex _ _ u1, u2.ex st1.ex⟩ Q fun v H2 F2 fp2 E2 st2 a2 => q v H2 F2 fp2 E2 (st1.trans st2) a2
    | false =>
      show Q (.bl false) H1
      exact q _ H1 F1 fp1 E1 st1 (.bl false)
theorem evu_not {dd : Addr} {fl : Str} {a : Bool} (h1 : EvU K dd fl x ta s (.bool a) s1) : EvU K dd fl x (tNotV ta) s (.bool (!a)) s1 := fun σ H F fp E u Q q =>
  h1 σ H F fp E u _ fun v H1 F1 fp1 E1 st1 a1 => by cases a1; exact ⟨a, rfl, q _ H1 F1 fp1 E1 st1 (.bl _)⟩
theorem EvU.to {dd : Addr} {fl : Str} {y : D} (h : EvU K dd fl x te s d s1) (e : d = y) : EvU K dd fl x te s y s1 := e ▸ h
/-- the body raises; the clause returns -/
theorem run_tryEx {c : Value} {i j : Nat} {te : (L2.St → XK) → TE} {ts : Addr → Value → Option Addr → TS} {Wout : WX} {Cx : Addr} {fl : Str} {tr : Addr → Addr → TE} (hx : ∀ E σ, EvR K (E σ) (fun σ' H Q => σ' = σ → te E σ H Q) s Cx fl x s1)
    (hb : PySem.W.exmOne K (.ref Cx) c = some true) (hts : ∀ a dd, ts a (.ref Cx) (some dd) = tRet (tr a dd)) (hi : i < s1.s.length)
    (hr : ∀ a dd, EvU K dd fl x (tr a dd) (s1.set i (.vv (.ref a))) d (s1.set i (.vv (.ref a)))) :
    Run K E (tTry K c i (fun W => tAsg (te (WE W)) (gName j)) ts Wout) s (.rt d (s1.set i .unk)) := fun σ H F fp e Ed q => by
  show te (WE (wAs K c i ts Wout Ed)) σ H _
  refine hx (WE (wAs K c i ts Wout Ed)) σ σ H F fp e _ (fun dd v H1 F1 fp1 e1 st1 hdd hat => ?_) rfl
  refine ⟨true, hb, fun _ a ha => ?_, fun z => nomatch z⟩
  rw [hts]
  have e2 : EnvW K (σ.set i (some (.ref a))) (s1.set i (.vv (.ref a))) H1 F1 (fpSet fp1 (.inl i) noP) := e1.set (x := .vv (.ref a)) rfl
  refine hr a dd (σ.set i (some (.ref a))) H1 F1 _ e2 ⟨v, hdd, hat⟩ _ fun v' H2 F2 fp2 e3 st2 a3 => ?_
  refine q (σ.set i (some (.ref a))) v' H2 F2 fp2 ⟨e3.ex, by have := e3.len; simpa [S.set] using this, fun k y hk => ?_, e3.tb, e3.dj, e3.nf, e3.th, e3.nt⟩ ((st1.trans (Step.drop (i := .inl i))).trans st2) a3
  by_cases z : k = i
  · subst z
    have : (s1.s.set k .unk)[k]? = some .unk := List.getElem?_set_self hi
    rw [show (s1.set k .unk).s = s1.s.set k .unk from rfl, this] at hk
    cases hk; trivial
  · have e4 : (s1.s.set i .unk)[k]? = s1.s[k]? := List.getElem?_set_ne (Ne.symm z)
    rw [show (s1.set i .unk).s = s1.s.set i .unk from rfl, e4] at hk
    refine e3.sl k y ?_
    show (s1.s.set i (.vv (.ref a)))[k]? = some y
    rw [List.getElem?_set_ne (Ne.symm z)]
    exact hk
end
end DL

namespace DL
open PySem PySem.Spec PyProof.Rows L2 KwX
section
variable {K : PySem.W.Frag} {P : Program} {w : World} {E : XK} {s s0 s1 s2 s3 s' : S} {te ta tb ti : TE} {tt : TT} {t : TS} {d dr x y : D} {o : Out} {σ : L2.St} {H F H0 F0 : Hp} {fp fp0 : Fp} {C : Addr} {b : Bool}
theorem er_callM {R : FR} {ta tk : TA} {ds es : List D} {n m : Nat} {p : List Nat} {C : Addr} {fl : Str} (ha : EvA K ta s ds s1) (hk : EvA K tk s1 es s2) (hn : ds.length = n) (hm : es.length = m) (hp : ∀ i ∈ p, i < n + m) (hR : R ⟨(arr .none p (ds ++ es)).map .dat, s2.g⟩ (.ex C fl d ⟨(arr .none p (ds ++ es)).map .dat, s2.g⟩)) : EvR K E (tCallM (spF K R) n m p E ta tk) s C fl d s2 := fun σ H F fp e Q q =>
  ha σ H F fp e _ fun vs H1 F1 fp1 e1 st1 a1 => hk σ H1 F1 fp1 e1 _ fun zs H2 F2 fp2 e2 st2 a2 => by
    have l1 := a1.length
    have l2 := a2.length
    refine ⟨by omega, by omega, _, F2, noF, _, env_dat e2 (atAll_arr ((a1.ex st2.ex).append a2) fun i hi => by have := hp i hi; rw [List.length_append]; omega), hR, fun dd v H' F' fp' e' st a b => ?_⟩
    obtain ⟨e3, st3⟩ := frame0 e2 e' st rfl
    exact q dd v H' F' fp2 e3 ((st1.trans st2).trans st3) a b
theorem ev_callMS {R : FR} {ta tk : TA} {ds es : List D} {n m : Nat} {p : List Nat} {E : L2.St → XK} (ha : EvA K ta s ds s1) (hk : EvA K tk s1 es s2) (hn : ds.length = n) (hm : es.length = m) (hp : ∀ i ∈ p, i < n + m) (hR : R ⟨(arr .none p (ds ++ es)).map .dat, s2.g⟩ (.rt d ⟨(arr .none p (ds ++ es)).map .dat, s2.g⟩)) : Ev K (tCallMS (spF K R) n m p E ta tk) s d s2 := fun σ H F fp e Q q =>
  ev_callM (E := E σ) ha hk hn hm hp hR σ H F fp e Q q
theorem er_callMS {R : FR} {ta tk : TA} {ds es : List D} {n m : Nat} {p : List Nat} {C : Addr} {fl : Str} (ha : EvA K ta s ds s1) (hk : EvA K tk s1 es s2) (hn : ds.length = n) (hm : es.length = m) (hp : ∀ i ∈ p, i < n + m) (hR : R ⟨(arr .none p (ds ++ es)).map .dat, s2.g⟩ (.ex C fl d ⟨(arr .none p (ds ++ es)).map .dat, s2.g⟩)) :
    ∀ (E : L2.St → XK) σ, EvR K (E σ) (fun σ' H Q => σ' = σ → tCallMS (spF K R) n m p E ta tk σ H Q) s C fl d s2 := fun E σ σ' H F fp e Q q z => by
  subst z
  exact er_callM (E := E σ') ha hk hn hm hp hR σ' H F fp e Q q
end
end DL

namespace DL
open PySem PySem.Spec PyProof.Rows L2
section
variable {K : PySem.W.Frag} {s s1 s2 : S} {te : TE}
theorem it_revO {ds : List D} (h : Ev K te s (.list ds) s1) : IterD K (RT.iRevA K te) s ds.reverse s1 := fun σ H F fp e R r =>
  h σ H F fp e _ fun v H1 F1 fp1 e1 st1 a1 => by
    cases a1 with
    | @lst a vs _ ha hv =>
      have hl := hv.length
      have hlst : ∀ {F' H'}, Ex F1 F' → Ex F' H' → H' a = some (.lst vs) := fun hF hH => hH _ _ (hF _ _ ha)
      refine ⟨a, vs, rfl, .inl ⟨.inl (.inl (e1.ex _ _ ha)), r _ H1 F1 fp1 e1 st1 fun F' H' i hF hH => ⟨fun d hd => ?_, fun hi => ?_⟩⟩⟩
      · have hi : i < ds.length := by
          have := (List.getElem?_eq_some_iff.mp hd).1
          simpa using this
        have hd' : ds[vs.length - 1 - i]? = some d := by
          rw [List.getElem?_reverse hi] at hd
          rw [hl]; exact hd
        obtain ⟨x, hx, hat⟩ := hv.get hd'
        refine ⟨⟨by omega, vs, x, .inl (.inl (hlst hF hH)), hx⟩, fun y H2 hy => ?_⟩
        obtain ⟨rfl, hy⟩ := hy
        have hy := hy vs (.inl (.inl (hlst hF hH)))
        rw [hx] at hy
        cases hy
        exact ⟨F', Grow.refl hH, hat.ex hF⟩
      · rw [List.length_reverse] at hi
        show vs.length ≤ i
        omega
end
end DL

namespace KwX
open PySem PySem.Spec PySem.W PyProof.Rows L2 DL
/-- a def f(p, **d) of the text -/
structure FunK (K : PySem.W.Frag) (x qual : Str) (st : Stmt) (f : Addr) : Prop where
  ex : ∃ (oc : Value) (od : Option Addr) (kV doc pm : Value) (an : Option Addr) (cdv ct : Value) (osl : Array (Option Value)),
    K.lookup f = some ⟨oc, od, .func (PySem.W.fnOf x qual (defArgs st) (defBody st) (defScope st) .none kV doc pm an cdv ct), osl⟩ ∧ PySem.W.codeIn K cdv qual = true
theorem funK_mk {K : PySem.W.Frag} {x qual : Str} {st : Stmt} {f : Addr} {oc : Value} {od an : Option Addr} {osl : Array (Option Value)} {kV doc pm cdv ct : Value} (l : K.lookup f = some ⟨oc, od, .func (PySem.W.fnOf x qual (defArgs st) (defBody st) (defScope st) .none kV doc pm an cdv ct), osl⟩)
    (c : PySem.W.codeIn K cdv qual = true) : FunK K x qual st f := ⟨⟨oc, od, kV, doc, pm, an, cdv, ct, osl, l, c⟩⟩
theorem FunK.okX {P : Program} {w : World} {K : PySem.W.Frag} {mg : Str → Option Value} {base : Heap} {x qual : Str} {st : Stmt} {f : Addr} {N : List Str} {p d : Str} {a : Arg} {k : Nat} {sp : Sp} (F : FunK K x qual st f) (S : FnScope N [p, d] (defScope st))
    (h1 : (defArgs st).posonlyargs = []) (h2 : (defArgs st).args.map (·.arg) = [p]) (h3 : (defArgs st).kwonlyargs = []) (h4 : (defArgs st).vararg = none) (h5 : (defArgs st).kwarg = some a) (h6 : a.arg = d)
    (hbody : ∀ (cdv : Value) (A : Around) (outer : List Env) (s : Shared) (H : Hp) (vs : List V) (Q : VK) (E : XK), Room k (A.deeper (envOfC qual (defScope st) s.heap.objs.size f cdv)) → sp vs H Q E →
      ∃ t, PSs (cxOf (L2.CX P w) P w K mg base N qual (defScope st) f cdv A outer s H E) (defBody st) t ∧ t { nx := fun _ H' => Q .non H', rt := Q } (L2.start N vs) H) : FnKw P w K mg base (L2.CX P w) (k + 1) f p sp := by
  obtain ⟨oc, od, kV, doc, pm, an, cdv, ct, osl, lk, hcd⟩ := F.ex
  exact fn_kw lk hcd S StX.cxUp (kwDef_of h1 h2 h3 h4 h5 h6 rfl) fun A outer s H vs Q E hr hsp => hbody cdv A outer s H vs Q E hr hsp
end KwX
namespace DL
open PySem PySem.Spec PyProof.Rows L2
theorem pin_atI {K : PySem.W.Frag} {H : Hp} {C : Addr} {v0 v : V} {vs : List V} {es : List (D × D)} {l : List Sl} {g : List (Addr × Str)} (h : ∃ F fp, EnvW K ((v0 :: vs).map some) ⟨.res (insR K C (some v) es) :: l, g⟩ H F fp) : v0 = v := by
  obtain ⟨F, fp, e⟩ := h
  obtain ⟨a, dx, fs, h1, h2, _⟩ := e.sl 0 _ rfl
  have := h2 v rfl
  subst this
  simpa using h1
end DL

/-! constants of the written part as data -/
namespace DL
open PySem PySem.Spec PyProof.Rows L2 KwX
/-- texts -/
def VStr : List Value → List Str → Prop
  | [], [] => True
  | v :: r, n :: ns => (∃ t, v = .str n t) ∧ VStr r ns
  | _, _ => False
theorem vstr_vals : ∀ {us : List Value} {ns : List Str}, VStr us ns → Vals (ns.map V.str) us
  | [], [], _ => .nil
  | [], _ :: _, h => h.elim
  | _ :: _, [], h => h.elim
  | v :: r, n :: ns, h => by
    obtain ⟨⟨t, rfl⟩, h2⟩ := h
    exact .cons ⟨t, rfl⟩ (vstr_vals h2)
theorem at_strs {K : PySem.W.Frag} {F : Hp} : ∀ {ns : List Str}, AtAll K F (ns.map V.str) (ns.map PyData.str)
  | [] => .nil
  | n :: ns => .cons (.str n) at_strs
theorem ktup_strs {K : PySem.W.Frag} {a : Addr} {dd : Option Addr} {its : Array Value} {n : Nat} {sl : Array (Option Value)} {ns : List Str} (hl : K.lookup a = some ⟨.type "tuple", dd, .seq its n, sl⟩) (hv : VStr its.toList ns) (hn : ns.length ≤ 1000) : ∀ F, At K F (.ref a) (.tuple (ns.map PyData.str)) := fun F =>
  .tup (.inr ⟨_, its, n, hl, rfl, rfl, by
    have := (vstr_vals hv).length
    rw [List.length_map] at this
    have e : its.size = its.toList.length := (Array.length_toList).symm
    rw [e, ← this]
    exact le_size (by omega), vstr_vals hv⟩) at_strs
/-- two numbers in a written tuple -/
structure KTup2 (K : PySem.W.Frag) (a : Addr) (i j : Int) : Prop where
  ex : ∃ dd its n sl, K.lookup a = some ⟨.type "tuple", dd, .seq its n, sl⟩ ∧ ∃ t u, its.toList = [.int i t, .int j u]
theorem KTup2.at {K : PySem.W.Frag} {a : Addr} {i j : Int} (h : KTup2 K a i j) : ∀ F, At K F (.ref a) (.tuple [.int i, .int j]) := fun F => by
  obtain ⟨dd, its, n, sl, hl, t, u, e⟩ := h.ex
  refine .tup (vs := [.int i, .int j]) (.inr ⟨_, its, n, hl, rfl, rfl, ?_, ?_⟩) (.cons (.int i) (.cons (.int j) .nil))
  · have e2 : its.size = its.toList.length := (Array.length_toList).symm
    rw [e2, e]
    exact le_size (by simp)
  · rw [e]
    exact .cons ⟨t, rfl⟩ (.cons ⟨u, rfl⟩ .nil)
/-- a written dict from texts to what P tells -/
def DLit (pr : Params) (Pv : Value → V → D → Prop) : List DictEntry → List (Str × V × D) → Prop
  | [], [] => True
  | e :: r, (n, v, d) :: ns => (∃ t, e.key = .str n t) ∧ e.hash = PyData.keyHash pr n ∧ Pv e.val v d ∧ DLit pr Pv r ns
  | _, _ => False
theorem dlit_keys {pr : Params} {Pv : Value → V → D → Prop} : ∀ {es : List DictEntry} {ns : List (Str × V × D)}, DLit pr Pv es ns → PySem.W.KeysLit pr es
  | [], [], _ => trivial
  | [], _ :: _, h => h.elim
  | _ :: _, [], h => h.elim
  | e :: r, (n, v, d) :: ns, h => by
    obtain ⟨⟨t, h1⟩, h2, _, h4⟩ := h
    exact ⟨⟨n, t, h1, h2⟩, dlit_keys h4⟩
theorem dlit_pairs {P : Program} {w : World} {pr : Params} {Pv : Value → V → D → Prop} (hP : ∀ u v d, Pv u v d → RelV v u) : ∀ {es : List DictEntry} {ns : List (Str × V × D)}, DLit pr Pv es ns → ∃ kw : List (Key × Value), Pairs (mixKind P w) es kw ∧ KV (ns.map fun x => ((Sum.inr x.1 : Key), x.2.1)) kw ∧ kw.map (·.1) = ns.map fun x => (Sum.inr x.1 : Key)
  | [], [], _ => ⟨[], .nil, .nil, rfl⟩
  | [], _ :: _, h => h.elim
  | _ :: _, [], h => h.elim
  | e :: r, (n, v, d) :: ns, h => by
    obtain ⟨⟨t, h1⟩, h2, h3, h4⟩ := h
    obtain ⟨kw, k1, k2, k3⟩ := dlit_pairs (P := P) (w := w) hP h4
    refine ⟨(.inr n, e.val) :: kw, .cons (by rw [h1]; exact mixKind_str P w n t) rfl k1, .cons ⟨rfl, hP _ _ _ h3⟩ k2, ?_⟩
    rw [List.map_cons, List.map_cons, k3]
theorem dlit_at {K : PySem.W.Frag} {F : Hp} {pr : Params} {Pv : Value → V → D → Prop} (hP : ∀ u v d, Pv u v d → At K F v d) : ∀ {es : List DictEntry} {ns : List (Str × V × D)}, DLit pr Pv es ns → AtKV K F (ns.map fun x => ((Sum.inr x.1 : Key), x.2.1)) (ns.map fun x => (.str x.1, x.2.2))
  | [], [], _ => .nil
  | [], _ :: _, h => h.elim
  | _ :: _, [], h => h.elim
  | e :: r, (n, v, d) :: ns, h => by
    obtain ⟨_, _, h3, h4⟩ := h
    exact AtKV.cons (k := .inr n) (hP _ _ _ h3) (dlit_at hP h4)
theorem wr_dat {P : Program} {w : World} {K : PySem.W.Frag} {a : Addr} {es : Array DictEntry} {n : Nat} {Pv : Value → V → D → Prop} {ns : List (Str × V × D)} {ds : List (D × D)} (hl : K.lookup a = some ⟨.type "dict", none, .dict es n, #[]⟩) (hd : DLit w.params Pv es.toList ns) (hs : (a == sysModules) = false)
    (h1 : ∀ u v d, Pv u v d → RelV v u) (h2 : ∀ u v d, Pv u v d → ∀ F, At K F v d) (hn : (ns.map (·.1)).Nodup) (hz : ns.length ≤ 1000) (e : ds = ns.map fun x => (.str x.1, x.2.2)) : WrDat P w K a ds := by
  subst e
  obtain ⟨kw, k1, k2, k3⟩ := dlit_pairs (P := P) (w := w) h1 hd
  refine ⟨_, ⟨es, n, kw, hl, dlit_keys hd, k1, k2, ?_, hs, by rw [List.length_map]; exact le_size (by omega)⟩, fun F => dlit_at (fun u v d h => h2 u v d h F) hd⟩
  rw [k3]
  have : (ns.map fun x => (Sum.inr x.1 : Key)) = (ns.map (·.1)).map Sum.inr := by rw [List.map_map]; rfl
  rw [this]
  exact List.Pairwise.map _ (fun x y (hxy : x ≠ y) (q : (Sum.inr x : Key) = Sum.inr y) => hxy (Sum.inr.inj q)) hn
/-- numbers -/
def PInt (u : Value) (v : V) (d : D) : Prop := ∃ i t, u = .int i t ∧ v = .int i ∧ d = .int i
/-- pairs of numbers -/
def PTwo (K : PySem.W.Frag) (u : Value) (v : V) (d : D) : Prop := ∃ a i j, u = .ref a ∧ v = .ref a ∧ d = .tuple [.int i, .int j] ∧ KTup2 K a i j
theorem pint_rel : ∀ u v d, PInt u v d → RelV v u := fun u v d ⟨i, t, h1, h2, _⟩ => by subst h1 h2; exact ⟨t, rfl⟩
theorem pint_at {K : PySem.W.Frag} : ∀ u v d, PInt u v d → ∀ F, At K F v d := fun u v d ⟨i, t, _, h2, h3⟩ F => by subst h2 h3; exact .int i
theorem ptwo_rel {K : PySem.W.Frag} : ∀ u v d, PTwo K u v d → RelV v u := fun u v d ⟨a, i, j, h1, h2, _⟩ => by subst h1 h2; rfl
theorem ptwo_at {K : PySem.W.Frag} : ∀ u v d, PTwo K u v d → ∀ F, At K F v d := fun u v d ⟨a, i, j, _, h2, h3, h4⟩ F => by subst h2 h3; exact h4.at F
end DL

/-! repr of data where no repr is under way; == and != by an own __eq__, any other operand -/
namespace GdX
open PySem PySem.Spec PySem.W PyProof.Rows L2 DL
theorem guards_deeper {A : Around} {env : Env} (h : A.guards = some []) : (A.deeper env).guards = some [] := h
/-- a promise that is kept where no repr is under way -/
structure FnOkG (P : Program) (w : World) (K : PySem.W.Frag) (mg : Str → Option Value) (base : Heap) (CX : CXT) (k : Nat) (f : Addr) (fd : FuncData) (ps : List Str) (sp : Sp) : Prop where
  len : ∀ vs H Q E, sp vs H Q E → vs.length = ps.length
  run : ∀ (A : Around) (outer : List Env) (s : Shared) (H : Hp) (args : Args) (us : List Value) (vs : List V) (Q : VK) (E : XK), A.guards = some [] → Room k A → Env0 P w K mg base A outer s H → BindsTo s fd args (ps.zip us) → Vals vs us → sp vs H Q E →
    codeAny (model P w) A (.call (.ref f) args) (CR CX outer P w H s Q E) s
section
variable {X : Cx} {CX : CXT} {k : Nat} {f : Addr} {fd : FuncData} {ps : List Str} {sp : Sp} {E : XK} {x : Str} {p pos : Pos} {e : Expr} {es : List Expr} {t : TA} {ds : List Value} {dvs : List V}
theorem run_fnG {pins : List (Addr × Obj)} {σ : L2.St} {H : Hp} {s : Shared} {Q : VK} {us : List Value} {vs : List V} (hgd : X.A.guards = some []) (F : FnOkG X.prog X.w X.K X.mg X.base CX k f fd ps sp) (hr : Room k X.A) (hb : L2.Binds X.K fd ps ds) (hd : Vals dvs ds) (hx : Passes CX X E)
    (I : Inv X pins σ H s) (r : Vals vs us) (h : sp (vs ++ dvs) H Q E) : wpAny (model X.prog X.w) X.A (call (.ref f) us) (EP X pins σ Q) X.xe s := by
  have r2 : Vals (vs ++ dvs) (us ++ ds) := r.append hd
  have hl : (us ++ ds).length = ps.length := r2.length.symm.trans (F.len _ _ _ _ h)
  refine wpAny_call (codeAny_mono (F.run X.A X.stack s H ⟨us, []⟩ (us ++ ds) (vs ++ dvs) Q E hgd hr I.env0 (hb s us I.kIn hl) r2 h) fun r s' hq => ?_)
  match r, hq with
  | .error e, hq => exact hx pins σ H s e s' I hq
  | .ok (.ret u), hq => exact I.after hq
theorem pe_callG (hgd : X.A.guards = some []) (F : FnOkG X.prog X.w X.K X.mg X.base CX k f fd ps sp) (hr : Room k X.A) (hg : Gl X x) (hm : X.mg x = some (.ref f)) (hk : PySem.W.keepIn X.K (.ref f) = true) (hb : L2.Binds X.K fd ps ds) (hd : Vals dvs ds) (hx : Passes CX X E)
    (ha : PA X (e :: es) t) (hdb : (x == ("__debug__" : Str)) = false := by decide) (he : starEach (e :: es) X.env = (false, eval e X.env) :: starEach es X.env := by rfl) (hpl : (backTo pos (starEach es X.env)).any (·.1) = false := by rfl) :
    PE X (.Call (.Name x p) (e :: es) [] pos) (tCall sp dvs E t) := by
  refine ⟨fun pins s σ H Q I h => wpAny_Call_Name_kw (ld_glob I hg hm ?_ hdb)⟩
  exact PySem.W.callWith_K (h₀ := X.base) I.ok.mod.kin hk (thn (ha.run pos pins s σ H _ I h) fun us s1 ⟨vs, H1, I1, r, q⟩ => ⟨I1.kIn, run_fnG hgd F hr hb hd hx I1 r q⟩) he hpl
theorem pe_call0G (hgd : X.A.guards = some []) (F : FnOkG X.prog X.w X.K X.mg X.base CX k f fd ps sp) (hr : Room k X.A) (hg : Gl X x) (hm : X.mg x = some (.ref f)) (hk : PySem.W.keepIn X.K (.ref f) = true) (hb : L2.Binds X.K fd ps ds) (hd : Vals dvs ds) (hx : Passes CX X E)
    (hdb : (x == ("__debug__" : Str)) = false := by decide) : PE X (.Call (.Name x p) [] [] pos) (tCall sp dvs E tNil) := by
  refine ⟨fun pins s σ H Q I h => wpAny_Call_Name_kw (ld_glob I hg hm ?_ hdb)⟩
  exact PySem.W.callWith_K0 I.kIn hk (run_fnG (us := []) hgd F hr hb hd hx I .nil h)
end
section
variable {P : Program} {w : World} {K : PySem.W.Frag} {mg : Str → Option Value} {base : Heap}
theorem fun_okG {x qual : Str} {st : Stmt} {f : Addr} {fd : FuncData} {N ps : List Str} {k : Nat} {sp : Sp} (F : Fun K x qual st f fd) (S : FnScope N ps (defScope st)) (len : ∀ vs H Q E, sp vs H Q E → vs.length = ps.length)
    (hbody : ∀ (cdv : Value) (A : Around) (outer : List Env) (s : Shared) (H : Hp) (vs : List V) (Q : VK) (E : XK), (A.deeper (envOfC qual (defScope st) s.heap.objs.size f cdv)).guards = some [] → Room k (A.deeper (envOfC qual (defScope st) s.heap.objs.size f cdv)) → sp vs H Q E →
      ∃ t, PSs (cxOf (L2.CX P w) P w K mg base N qual (defScope st) f cdv A outer s H E) (defBody st) t ∧ t { nx := fun _ H' => Q .non H', rt := Q } (L2.start N vs) H) : FnOkG P w K mg base (L2.CX P w) (k + 1) f fd ps sp := by
  obtain ⟨oc, od, kV, doc, pm, an, cdv, ct, osl, rfl, lk, hcd⟩ := F.ex
  exact ⟨len, fun A outer s H args us vs Q E hgd hr e0 hb r hsp => LamX.run_ofS lk hcd S hr e0 hb r (len _ _ _ _ hsp) fun hr' => hbody cdv A outer s H vs Q E hgd hr' hsp⟩
theorem funC_okG {x qual : Str} {st : Stmt} {f : Addr} {fd : FuncData} {c : Addr} {N ps : List Str} {k : Nat} {sp : Sp} (F : FunC K x qual st f fd c) (S : FnScope N ps (defScope st)) (len : ∀ vs H Q E, sp vs H Q E → vs.length = ps.length)
    (hbody : ∀ (A : Around) (outer : List Env) (s : Shared) (H : Hp) (vs : List V) (Q : VK) (E : XK), (A.deeper (envOfC qual (defScope st) s.heap.objs.size f (.ref c))).guards = some [] → Room k (A.deeper (envOfC qual (defScope st) s.heap.objs.size f (.ref c))) → sp vs H Q E →
      ∃ t, PSs (cxOf (L2.CX P w) P w K mg base N qual (defScope st) f (.ref c) A outer s H E) (defBody st) t ∧ t { nx := fun _ H' => Q .non H', rt := Q } (L2.start N vs) H) : FnOkG P w K mg base (L2.CX P w) (k + 1) f fd ps sp := by
  obtain ⟨oc, od, kV, doc, pm, an, ct, osl, rfl, lk, hcd⟩ := F.ex
  exact ⟨len, fun A outer s H args us vs Q E hgd hr e0 hb r hsp => LamX.run_ofS lk hcd S hr e0 hb r (len _ _ _ _ hsp) fun hr' => hbody A outer s H vs Q E hgd hr' hsp⟩
end
/-! ### repr -/
def reprOk : List D → Prop
  | [d] => SeqAt.shaped d = true ∧ d.showable = true ∧ d.hasDict = false ∧ d.depth ≤ 20 ∧ d.shown.length ≤ sizeLine
  | _ => False
def reprD : List D → D
  | [d] => .str d.shown
  | _ => .none
theorem call_reprU {X : Cx} (hgd : X.A.guards = some []) (hu : X.A.units + 64 < cLine) : CallR X (.builtin "repr") (rDn X.K reprOk reprD) := by
  intro pins s σ H xs us Q I r ⟨F, ds, e, hx, ok, k⟩
  match ds, ok with
  | [d], ⟨o1, o2, o3, o4, o5⟩ =>
    cases hx with
    | cons h1 h2 =>
      cases h2
      obtain ⟨u, rfl, ru⟩ := vals1 r
      obtain ⟨as, rd⟩ := Dp.reads I d _ u (h1.dp e o1) ru
      have q := k (.str d.shown) H F (Grow.refl e) (.str _)
      cases rd with
      | none => exact PySem.P.repr_of_none ⟨.str _, H, I.tok _, ⟨_, rfl⟩, q⟩
      | bool => exact PySem.P.repr_of_bool ⟨.str _, H, I.tok _, ⟨_, rfl⟩, q⟩
      | int => exact PySem.P.repr_of_int (by simpa [PyData.showable] using o2) ⟨.str _, H, I.tok _, ⟨_, rfl⟩, q⟩
      | str => exact PySem.P.repr_of_str ⟨.str _, H, I.tok _, ⟨_, rfl⟩, q⟩ (by simpa [PyData.shown] using o5)
      | list g1 g2 g3 g4 => exact repr_of_reads' (.list g1 g2 g3 g4) o2 (PyData.noDict_hsm o3) hgd (by omega) (fun _ _ z => z) (fun h' u tk hk => ⟨.str _, H, I.kept (t' := tk) hk, ⟨_, rfl⟩, q⟩) o5
      | tuple g1 g2 g3 g4 => exact repr_of_reads' (.tuple g1 g2 g3 g4) o2 (PyData.noDict_hsm o3) hgd (by omega) (fun _ _ z => z) (fun h' u tk hk => ⟨.str _, H, I.kept (t' := tk) hk, ⟨_, rfl⟩, q⟩) o5
      | dict h1 h2 h3 h4 h5 => exact absurd o3 (by simp [PyData.hasDict])
theorem ev_repr {K : PySem.W.Frag} {s s1 : S} {te : TE} {d : D} (h : Ev K te s d s1) (ok : reprOk [d]) : Ev K (tCB (rDn K reprOk reprD) (tCons te tNil)) s (.str d.shown) s1 := ev_cb (ea_cons h ea_nil) ok
end GdX

namespace GdX
open PySem PySem.Spec PySem.W PyProof.Rows L2 DL KwX
/-- x == y, x != y by an own __eq__ -/
def rCmpI (K : PySem.W.Frag) (C : Addr) (neg : Bool) (sp : Sp) (E : XK) : R2 := fun x y H Q => ∃ a dx fs t, x = .ref a ∧ H a = some (.ins C dx fs) ∧ TyX K H y t ∧ notFirst K C t = true ∧ sp [x, y] H (fun v H' => ∃ r, v = .bl r ∧ Q (.bl (if neg then !r else r)) H') E
/-- a class without a __ne__ of its own -/
structure NeC (K : PySem.W.Frag) (C : Addr) : Prop where
  ne : findIn K (.ref C) "__ne__" = some (some (.builtin "object.__ne__"))
  co : mroIn K C (.type "object") = some true
section
variable {M : Model} {prog : Program} {w : World} {A : Around} {E : Value → Shared → Prop} {s : Shared} {K : PySem.W.Frag} {x C f : Addr} {ox : Obj} {od : Option Obj} {b tb : Value}
theorem objNe_K (X : K.In s.heap) (I : InstAt s.heap x ox C od) (he : findIn K (.ref C) "__eq__" = some (some (.ref f))) (hf : isFn K (.ref f) = true) (hu : A.units < cLine) {Q : Fin → Shared → Prop}
    (hcall : wpAny (model prog w) A (call (.ref f) [.ref x, b]) (fun v s' => ∃ r, v = .bool r ∧ Q (.done (.ret (.bool (!r)))) s') E s) :
    wpAny (model prog w) A (Builtin.«object.__ne__» ⟨[.ref x, b], []⟩) Q E s := by
  unfold Builtin.«object.__ne__»
  repeat (first
    | with_reducible refine wpAny_cRoomFor hu ?_
    | (refine wpAny_bind (m := callSpecialIfBound? (.ref x) (Str.ofString "__eq__") [b])
        (ifBound_K X I he hf (wpAny_mono hcall (fun r s' hr => by
          obtain ⟨y, rfl, hq⟩ := hr
          repeat (first | exact hq | exact wpAny_pure hq | exact wpAny_truthy_bool hq | (refine wpAny_bind (m := truthy (.bool _)) (wpAny_truthy_bool ?_)) | wp_step)) fun _ _ e => e)))
    | wp_step)
theorem ifBound_objNe {args : List Value} {Q : Option Value → Shared → Prop} (X : K.In s.heap) (I : InstAt s.heap x ox C od) (hs : findIn K (.ref C) "__ne__" = some (some (.builtin "object.__ne__")))
    (h : wpAny M A (call (.builtin "object.__ne__") (.ref x :: args)) (fun v => Q (some v)) E s) : wpAny M A (callSpecialIfBound? (.ref x) "__ne__" args) Q E s := by
  simp only [callSpecialIfBound?, bindSpecialIfBound?]
  refine wpAny_holding (wpAny_bind (wpAny_bind (wpAny_bind (I.type.here ((looks_findIn X hs).here ?_)))))
  refine wpAny_bind (wpAny_askSetting (wpAny_ite ?_))
  have fin : wpAny M A (call (.builtin "object.__ne__") ([.ref x] ++ args) >>= fun v => pure (some v)) Q E s := wpAny_bind (wpAny_mono h (fun v s' h' => wpAny_pure h') fun _ _ h' => h')
  split
  · exact wpAny_bind (wpAny_of_eq (F.cmp_object.ne.bind _) (wpAny_pure (by exact fin)))
  · exact wpAny_tryCatch (wpAny_bind (wpAny_of_eq (F.cmp_object.ne.bind _) (wpAny_pure (by exact fin))))
theorem ne_K (N : NeC K C) (X : K.In s.heap) (I : InstAt s.heap x ox C od) (hb : Looks (model prog w) s.heap (typeOf b) tb) (hn : notFirst K C tb = true) (he : findIn K (.ref C) "__eq__" = some (some (.ref f))) (hf : isFn K (.ref f) = true) (hu : A.units + 1 < cLine) {Q : Value → Shared → Prop}
    (hcall : wpAny (model prog w) A.in1 (call (.ref f) [.ref x, b]) (fun v s' => ∃ r, v = .bool r ∧ Q (.bool (!r)) s') E s) :
    wpAny (model prog w) A (richCompare .NotEq (.ref x) b) Q E s := by
  have one : wpAny (model prog w) A (tryCompare (.ref x) "__ne__" b) (fun r s' => ∃ v, r = some v ∧ Q v s') E s := by
    unfold tryCompare
    refine wpAny_bind (ifBound_objNe X I N.ne (wpAny_call (codeAny_call_builtin F.cmp_object.ne.plain F.cmpEntry_ne (check_slot F.cmpKind_ne F.cmpSplit_ne (I.type.andThen (looks_mroIn X N.co)) (F.cmpArgs_ne _ _)
      (objNe_K (A := A.in1) X I he hf (show A.units + 1 < cLine from hu) (wpAny_mono hcall (fun v s' hv => ?_) fun _ _ e => e))))))
    obtain ⟨r, rfl, hq⟩ := hv
    exact ⟨r, rfl, wpAny_pure ⟨_, rfl, hq⟩⟩
  unfold richCompare
  simp only [oneThing_ref]
  refine wpAny_holding (wpAny_bind (wpAny_cRoomFor (by omega) ?_))
  refine wpAny_bind (I.type.here (wpAny_bind (hb.here ?_)))
  split
  · rename_i q
    have e : subIn K tb (.ref C) = some false := by
      rcases Bool.or_eq_true_iff.mp hn with e | e
      · rw [beq_iff_eq.mp e] at q; simp at q
      · exact beq_iff_eq.mp e
    refine wpAny_bind ((looks_subIn X e).here ?_)
    simp only [Bool.false_eq_true, if_false]
    refine wpAny_bind (wpAny_mono one (fun r s' z => ?_) fun _ _ e => e)
    obtain ⟨v, rfl, hq⟩ := z
    exact wpAny_pure hq
  · refine wpAny_bind (wpAny_pure ?_)
    simp only [Bool.false_eq_true, if_false]
    refine wpAny_bind (wpAny_mono one (fun r s' z => ?_) fun _ _ e => e)
    obtain ⟨v, rfl, hq⟩ := z
    exact wpAny_pure hq
end
section
variable {X : Cx} {CX : CXT} {C f : Addr} {fd : FuncData} {ps : List Str} {sp : Sp} {E : XK} {n : Nat}
theorem op_eqA (F : FnOk X.prog X.w X.K X.mg X.base CX n f fd ps sp) (me : Meth X.K C "__eq__" f) (hb : L2.Binds X.K fd ps []) (hx : Passes CX X E) (hr : Room n X.A) : OpR X (compareOp .Eq) (rCmpI X.K C false sp E) := by
  intro pins s σ H x y v u Q I rx ry hq
  show wpAny (model X.prog X.w) X.A (richCompare .Eq v u) (EP X pins σ Q) X.xe s
  obtain ⟨a, dx, fs, t, rfl, ha, ty, nf, hsp⟩ := hq
  cases rx
  obtain ⟨mA, J, _⟩ := ins_get I.hok ha
  obtain ⟨od, J, _⟩ := J.look
  obtain ⟨P, Z, p, _⟩ := kit_of I ry ty
  obtain ⟨m, hF⟩ := I.fr
  refine cmp_K (op := .Eq) (tb := t) hr.units0 hF I.ok.mod.kin J (Z.ty _ _ I.kIn p) nf me.at_ me.fn ?_
  have hl := F.len _ _ _ _ hsp
  have r2 : Vals [V.ref a, y] [Value.ref a, u] := .cons rfl (.cons ry .nil)
  refine wpAny_call (codeAny_mono (F.run X.A X.stack s H ⟨[.ref a, u], []⟩ [.ref a, u] [.ref a, y] _ E hr I.env0 (by
    have := hb s [.ref a, u] I.kIn (by simpa using hl)
    simpa using this) r2 hsp) fun r s' hq => ?_)
  match r, hq with
  | .error e, hq => exact hx pins σ H s e s' I hq
  | .ok (.ret w), hq =>
    obtain ⟨z, H', I', rz, rr, ez, hQ⟩ := I.after hq
    subst ez
    cases rz
    exact ⟨.bl rr, H', I', rfl, hQ⟩
theorem op_neA (N : NeC X.K C) (F : FnOk X.prog X.w X.K X.mg X.base CX n f fd ps sp) (me : Meth X.K C "__eq__" f) (hb : L2.Binds X.K fd ps []) (hx : Passes CX X E) (hr : Room (n + 1) X.A) : OpR X (compareOp .NotEq) (rCmpI X.K C true sp E) := by
  intro pins s σ H x y v u Q I rx ry hq
  show wpAny (model X.prog X.w) X.A (richCompare .NotEq v u) (EP X pins σ Q) X.xe s
  obtain ⟨a, dx, fs, t, rfl, ha, ty, nf, hsp⟩ := hq
  cases rx
  obtain ⟨mA, J, _⟩ := ins_get I.hok ha
  obtain ⟨od, J, _⟩ := J.look
  obtain ⟨P, Z, p, _⟩ := kit_of I ry ty
  refine ne_K N I.kIn J (Z.ty _ _ I.kIn p) nf me.at_ me.fn (by have := hr.un; omega) ?_
  have hl := F.len _ _ _ _ hsp
  have r2 : Vals [V.ref a, y] [Value.ref a, u] := .cons rfl (.cons ry .nil)
  have e0 : Env0 X.prog X.w X.K X.mg X.base X.A.in1 X.stack s H := { I.env0 with frames := I.env0.frames }
  refine wpAny_call (codeAny_mono (F.run X.A.in1 X.stack s H ⟨[.ref a, u], []⟩ [.ref a, u] [.ref a, y] _ E hr.in1 e0 (by
    have := hb s [.ref a, u] I.kIn (by simpa using hl)
    simpa using this) r2 hsp) fun r s' hq => ?_)
  match r, hq with
  | .error e, hq => exact hx pins σ H s e s' I hq
  | .ok (.ret w), hq =>
    obtain ⟨z, H', I', rz, rr, ez, hQ⟩ := I.after hq
    subst ez
    cases rz
    exact ⟨rr, rfl, .bl (!rr), H', I', rfl, hQ⟩
end
/-- the type of what is known as data -/
theorem sub_ty {K : PySem.W.Frag} {C : Addr} (d : D) : notFirst K C (.type (tyD d)) = true := by
  have key : ∀ n l, fastBuiltinMro n = some l → (∀ a : Addr, l.contains (.ref a) = false) → notFirst K C (.type n) = true := fun n l e h => by
    have : subIn K (.type n) (.ref C) = some false := by
      show (fastBuiltinMro n).map (·.contains (.ref C)) = some false
      rw [e]
      exact congrArg some (h C)
    unfold notFirst
    rw [this]
    simp
  cases d with
  | none => exact key "NoneType" [.type "NoneType", .type "object"] (by decide +kernel) (fun a => by first | rfl | simp)
  | bool b => exact key "bool" [.type "bool", .type "int", .type "object"] (by decide +kernel) (fun a => by first | rfl | simp)
  | int b => exact key "int" [.type "int", .type "object"] (by decide +kernel) (fun a => by first | rfl | simp)
  | str b => exact key "str" [.type "str", .type "object"] (by decide +kernel) (fun a => by first | rfl | simp)
  | list b => exact key "list" [.type "list", .type "object"] (by decide +kernel) (fun a => by first | rfl | simp)
  | tuple b => exact key "tuple" [.type "tuple", .type "object"] (by decide +kernel) (fun a => by first | rfl | simp)
  | dict b => exact key "dict" [.type "dict", .type "object"] (by decide +kernel) (fun a => by first | rfl | simp)
section
variable {K : PySem.W.Frag} {E : XK} {s s1 s2 : S} {ta tb : TE} {d : D} {C : Addr} {b neg : Bool}
theorem ev_cmpD {R : FR} {os : List (D × D)} (ha : Ev K ta s (objD C os) s1) (hb : Ev K tb s1 d s2) (hn : noScr d = true) (hR : R ⟨[.dat (objD C os), .dat d], s2.g⟩ (.rt (.bool b) ⟨[.dat (objD C os), .dat d], s2.g⟩)) :
    Ev K (tOp (rCmpI K C neg (spF K R) E) ta tb) s (.bool (if neg then !b else b)) s2 := fun σ H F fp e Q q =>
  ha σ H F fp e _ fun v H1 F1 fp1 e1 st1 a1 => hb σ H1 F1 fp1 e1 _ fun v2 H2 F2 fp2 e2 st2 a2 => by
    have a1' := a1.ex st2.ex
    obtain ⟨a, dx, fs, rfl, h1, _, _⟩ := obj_inv a1'
    refine ⟨a, dx, fs, _, rfl, e2.ex _ _ h1, at_ty e2.ex a2 hn, sub_ty d, _, F2, noF, _, env_dat (ds := [objD C os, d]) e2 (.cons a1' (.cons a2 .nil)), hR, fun v H' F' fp' e' st a => ?_⟩
    obtain ⟨e3, st3⟩ := frame0 e2 e' st rfl
    cases a
    exact ⟨b, rfl, q _ H' F' fp2 e3 ((st1.trans st2).trans st3) (.bl _)⟩
theorem ev_cmpO {R : FR} {os os' : List (D × D)} (c : ObC K C) (ha : Ev K ta s (objD C os) s1) (hb : Ev K tb s1 (objD C os') s2) (hR : R ⟨[.dat (objD C os), .dat (objD C os')], s2.g⟩ (.rt (.bool b) ⟨[.dat (objD C os), .dat (objD C os')], s2.g⟩)) :
    Ev K (tOp (rCmpI K C neg (spF K R) E) ta tb) s (.bool (if neg then !b else b)) s2 := fun σ H F fp e Q q =>
  ha σ H F fp e _ fun v H1 F1 fp1 e1 st1 a1 => hb σ H1 F1 fp1 e1 _ fun v2 H2 F2 fp2 e2 st2 a2 => by
    have a1' := a1.ex st2.ex
    obtain ⟨a, dx, fs, rfl, h1, _, _⟩ := obj_inv a1'
    obtain ⟨a', dx', fs', rfl, h1', _, _⟩ := obj_inv a2
    refine ⟨a, dx, fs, .ref C, rfl, e2.ex _ _ h1, .base (.ins (e2.ex _ _ h1') c.cl c.ca c.cg c.ct c.co), ?_, _, F2, noF, _, env_dat (ds := [objD C os, objD C os']) e2 (.cons a1' (.cons a2 .nil)), hR, fun v H' F' fp' e' st a => ?_⟩
    · unfold notFirst; simp
    · obtain ⟨e3, st3⟩ := frame0 e2 e' st rfl
      cases a
      exact ⟨b, rfl, q _ H' F' fp2 e3 ((st1.trans st2).trans st3) (.bl _)⟩
end
end GdX

/-! the law's end, for a promise that is kept where no repr is under way -/
namespace GdX
open PySem PySem.Spec PySem.W PyProof.Rows L2 DL LamX
open Classical in
/-- the tables and, where it is not written, the script -/
noncomputable def hdH (K : PySem.W.Frag) (ts : List Addr) (a : Addr) (o : Obj) (xs : List V) : Hp := fun b => if b ∈ ts then some (.tbl #[]) else if b = a ∧ K.lookup a = none then some (.frz o (.lst xs)) else none
section
variable {K : PySem.W.Frag} {ts : List Addr} {a b : Addr} {o : Obj} {xs : List V}
theorem hdH_tab (h : b ∈ ts) : hdH K ts a o xs b = some (.tbl #[]) := if_pos h
theorem hdH_scr (h : a ∉ ts) (hk : K.lookup a = none) : hdH K ts a o xs a = some (.frz o (.lst xs)) := (if_neg h).trans (if_pos ⟨rfl, hk⟩)
theorem hdH_out (h : b ∉ ts) (hk : ¬ (b = a ∧ K.lookup a = none)) : hdH K ts a o xs b = none := (if_neg h).trans (if_neg hk)
theorem hdH_cases {u : HO} (h : hdH K ts a o xs b = some u) : (b ∈ ts ∧ u = .tbl #[]) ∨ (b ∉ ts ∧ b = a ∧ K.lookup a = none ∧ u = .frz o (.lst xs)) := by
  by_cases h1 : b ∈ ts
  · rw [hdH_tab h1] at h; cases h; exact .inl ⟨h1, rfl⟩
  · by_cases h2 : b = a ∧ K.lookup a = none
    · obtain ⟨rfl, hk⟩ := h2
      rw [hdH_scr h1 hk] at h; cases h; exact .inr ⟨h1, rfl, hk, rfl⟩
    · rw [hdH_out h1 h2] at h; cases h
end
theorem law_callG {P : Program} {w : World} {K : PySem.W.Frag} {mg mb : Str → Option Value} {CX : CXT} {k : Nat} {fa a : Addr} {cs : List (Addr × Addr)} {fd : FuncData} {x : Str} {sp : Sp} {s₁ : Shared} {vs : List Value} {ns : List Int}
    (KX : K.In s₁.heap) (hns : s₁.heap.Ns mainGlobals mg) (hb : s₁.heap.Ns builtinsNs mb) (hbb : ∀ x : Str, x ≠ "__name__" → mb x = bootBuiltins x) (hlim : s₁.heap.NoLimit) (hg : s₁.gens = #[])
    (hT : ∀ p ∈ cs, s₁.heap.get? p.2 = some { cls := .none, data := .fields #[] }) (nT : ∀ p ∈ cs, K.lookup p.2 = none) (C : ∀ p ∈ cs, CodeHd s₁.heap p.1 p.2)
    (hbm : ∃ (bm : Addr) (ob : Obj), mg "__builtins__" = some (.ref bm) ∧ bm ≠ builtinsNs ∧ s₁.heap.get? bm = some ob ∧ ob.cls = .type "module" ∧ ob.dict = some builtinsNs ∧ ob.data = .plain)
    (ha : s₁.heap.get? a = some { cls := .type "list", data := .seq vs.toArray }) (hi : IntsAre vs ns) (hl : ns.length ≤ sizeLine) (hr : Room k callerA)
    (F : ∀ base : Heap, K.In base → base.Ns mainGlobals mg → (∀ p ∈ cs, TabB base mg p.1 p.2) → FnOkG P w K mg base CX k fa fd [x] sp) (hbind : ∀ (s : Shared) (u : Value), BindsTo s fd ⟨[u], []⟩ [(x, u)])
    (hsp : ∀ H : Hp, (∀ p ∈ cs, H p.2 = some (.tbl #[])) → SqL K H a (ns.map V.int) → sp [.ref a] H (fun v _ => v = .bl true) fun _ _ _ => False)
    (hCX : ∀ H e s', CX [] H s₁ (fun _ _ _ => False) e s' → False) :
    codeAny (model P w) callerA (.call (.ref fa) ⟨[.ref a], []⟩) (fun r s' => r = .ok (.ret (.bool true)) ∧ OldK s₁.heap s'.heap ∧ s'.os = s₁.os ∧ AllBare s'.gens) s₁ := by
  have rv := vals_ints hi
  have tabAt : ∀ b ∈ cs.map (·.2), s₁.heap.get? b = some { cls := .none, data := .fields #[] } ∧ K.lookup b = none := fun b hb => by
    obtain ⟨p, hp, rfl⟩ := List.mem_map.mp hb
    exact ⟨hT p hp, nT p hp⟩
  have aT : a ∉ cs.map (·.2) := fun z => by
    have q := (tabAt a z).1
    rw [ha] at q
    cases (congrArg Obj.data (Option.some.inj q) : Data.seq vs.toArray _ = Data.fields #[])
  let H := hdH K (cs.map (·.2)) a { cls := .type "list", data := .seq vs.toArray } (ns.map V.int)
  have hH : ∀ p ∈ cs, H p.2 = some (.tbl #[]) := fun p hp => hdH_tab (List.mem_map.mpr ⟨p, hp, rfl⟩)
  have hS : SqL K H a (ns.map V.int) := by
    cases hk : K.lookup a with
    | some o =>
      have e := KX a o hk
      rw [ha] at e
      cases e
      exact .inr ⟨_, vs.toArray, _, hk, rfl, rfl, rfl, by rw [List.size_toArray, hi.length]; exact hl, by simpa using rv⟩
    | none => exact .inl (.inr ⟨_, hdH_scr aT hk⟩)
  have hok : HOk P w H s₁.heap := fun b u z => by
    rcases hdH_cases z with ⟨h1, rfl⟩ | ⟨_, rfl, _, rfl⟩
    · exact (tabAt b h1).1
    · exact ⟨ha, by rw [List.length_map]; exact hl, vs, _, rv, ha⟩
  -- what is no plain list and no bare table is not tracked
  have free : ∀ {b : Addr} {o : Obj}, s₁.heap.get? b = some o → (∀ z n, o.data ≠ .seq z n) → o.data ≠ .fields #[] → H b = none := fun {b o} e h1 h2 => by
    cases q : H b with
    | none => rfl
    | some u =>
      rcases hdH_cases q with ⟨g1, _⟩ | ⟨_, rfl, _, _⟩
      · have := (tabAt b g1).1
        rw [e] at this; cases this
        exact (h2 rfl).elim
      · rw [ha] at e; cases e
        exact (h1 _ _ rfl).elim
  have old : ∀ {b : Addr} {m : Str → Option Value}, s₁.heap.Ns b m → (hidT s₁.heap H).Ns b m := fun {b m} ⟨o, es, ep, e, d, r⟩ =>
    ⟨o, es, ep, hidT_get e (free e (fun _ _ z => by rw [d] at z; cases z) fun z => by rw [d] at z; cases z), d, r⟩
  have hKb : K.In (hidT s₁.heap H) := fun b o e => hidT_get (KX b o e) (by
    cases q : H b with
    | none => rfl
    | some u =>
      rcases hdH_cases q with ⟨g1, _⟩ | ⟨_, rfl, g2, _⟩
      · rw [(tabAt b g1).2] at e; cases e
      · rw [g2] at e; cases e)
  have hM : L2.Mod K mg (hidT s₁.heap H) := ⟨hKb, old hns, ⟨mb, old hb, hbb⟩, let ⟨mc, h1, h2⟩ := hlim; ⟨mc, old h1, h2⟩⟩
  have TB : ∀ p ∈ cs, TabB (hidT s₁.heap H) mg p.1 p.2 := fun p hp => by
    refine ⟨?_, ?_, fun z => ?_⟩
    · obtain ⟨o, us, file, tf, flags, tg, inF, text, tt, e1, r1, r2, r3, rest⟩ := C p hp
      refine ⟨o, us, file, tf, flags, tg, inF, text, tt, hidT_get e1 (free e1 (fun _ _ z => by rw [r2] at z; cases z) fun z => ?_), r1, r2, r3, rest⟩
      rw [r2] at z; cases z
      simp at r3
    · obtain ⟨bm, ob, b1, b2, b3, b4, b5, b6⟩ := hbm
      refine ⟨bm, ob, b1, b2, fun q => ?_, fun q => ?_, hidT_get b3 (free b3 (fun _ _ z => by rw [b6] at z; cases z) fun z => by rw [b6] at z; cases z), b4, b5, b6⟩
      · obtain ⟨o, es, ep, e, hd, _⟩ := hns
        rw [q, e] at b3; cases b3
        rw [hd] at b6; cases b6
      · rw [q, hT p hp] at b3; cases b3
        cases b6
    · obtain ⟨o, es, ep, e, hd, _⟩ := hns
      rw [z, hT p hp] at e; cases e
      cases hd
  have e0 : Env0 P w K mg (hidT s₁.heap H) callerA [] s₁ H := ⟨rfl, hM, fun b o e => of_hidT e, Nat.le_of_eq (hidT_size _ _), trivial, fun b hb => absurd (show b ∈ ([] : List Addr) from hb) (by simp), hok, .of_eq hg⟩
  refine codeAny_mono ((F _ hKb (old hns) TB).run callerA [] s₁ H ⟨[.ref a], []⟩ [.ref a] [.ref a] _ _ rfl hr e0 (hbind s₁ (.ref a)) (.cons rfl .nil) (hsp H hH hS)) fun r s' h => ?_
  match r, h with
  | .error e, h => exact (hCX H e s' h).elim
  | .ok (.ret u), h =>
    obtain ⟨v, H', os, bare, un, hok', r', q⟩ := h
    obtain rfl : v = .bl true := q
    obtain rfl : u = Value.bool true := r'
    have kept : ∀ b o, b ∉ cs.map (·.2) → s₁.heap.get? b = some o → s'.heap.get? b = some o := fun b o nb e => by
      cases q : H b with
      | none => exact un.keep b o e q (by intro z; exact absurd (show b ∈ ([] : List Addr) from z) (by simp)) (by simp)
      | some u =>
        rcases hdH_cases q with ⟨g1, _⟩ | ⟨_, rfl, _, rfl⟩
        · exact absurd g1 nb
        · obtain ⟨e1, _⟩ := hok b _ q
          obtain ⟨e2, _⟩ := hok' b _ (un.frzs b _ _ q)
          rw [e] at e1; cases e1
          exact e2
    have grown : ∀ p ∈ cs, ∃ more : Array Value, s'.heap.get? p.2 = some { cls := .none, data := .fields more } := fun p hp => by
      obtain ⟨more, z⟩ := un.tbls p.2 #[] (hH p hp)
      exact ⟨_, hok' p.2 _ z⟩
    refine ⟨rfl, ⟨fun b o e => ?_, fun b o e => ?_⟩, os, bare⟩
    · by_cases hb : b ∈ cs.map (·.2)
      · obtain ⟨p, hp, rfl⟩ := List.mem_map.mp hb
        obtain ⟨more, hm⟩ := grown p hp
        rw [hT p hp] at e; cases e
        exact .inr (.inl ⟨((C p hp).tab (hT p hp)).isCodeTable, rfl, #[], more, rfl, by rw [Array.empty_append]; exact hm⟩)
      · exact .inl (kept b o hb e)
    · by_cases hb : b ∈ cs.map (·.2)
      · obtain ⟨p, hp, rfl⟩ := List.mem_map.mp hb
        obtain ⟨more, hm⟩ := grown p hp
        exact ⟨_, hm⟩
      · exact ⟨o, kept b o hb e⟩
def LawAtG (l : PySem.W.OpenLaw) (w : World) (K : PySem.W.Frag) (CX : CXT) (k n : Nat) (x : Str) (mg : Str → Option Value) (fa : Addr) (h : Heap) : Prop :=
  ∃ (fd : FuncData) (cs : List (Addr × Addr)) (sp : Sp), (∀ p ∈ cs, h.get? p.2 = some { cls := .none, data := .fields #[] }) ∧ (∀ p ∈ cs, K.lookup p.2 = none) ∧ (∀ p ∈ cs, CodeHd h p.1 p.2) ∧ (∀ (s : Shared) (u : Value), BindsTo s fd ⟨[u], []⟩ [(x, u)]) ∧
    (∀ (H : Hp) (a : Addr) (ns : List Int), ns.length ≤ n → (∀ p ∈ cs, H p.2 = some (.tbl #[])) → SqL K H a (ns.map V.int) → sp [.ref a] H (fun v _ => v = .bl true) fun _ _ _ => False) ∧
    ∀ base : Heap, K.In base → base.Ns mainGlobals mg → (∀ p ∈ cs, TabB base mg p.1 p.2) → FnOkG l.prog w K mg base CX k fa fd [x] sp
theorem walk_ofG {l : PySem.W.OpenLaw} {n k : Nat} {q : Program} {loose : List Str} {XP : (Str → Option Value) → Heap → Prop} {YP : World → Heap → Prop} {d : DefRec} {K : Params → PySem.W.Frag} {CX : World → CXT} {x : Str}
    (hn : l.most = some n) (hn2 : n ≤ sizeLine) (hdf : d.params.defaults = []) (hr : Room k callerA) (hY : ∀ (w : World) (h : Heap), YP w h → (K w.params).In h)
    (F : ∀ (w : World) (mg : Str → Option Value) (fa : Addr) (h : Heap), YP w h → (K w.params).In h → h.Ns mainGlobals mg → mg d.name = some (.ref fa) → LawAtG l w (K w.params) (CX w) k n x mg fa h)
    (hCX : ∀ (w : World) (H : Hp) (s : Shared) (e : Value) (s' : Shared), CX w [] H s (fun _ _ _ => False) e s' → False) :
    PySem.W.WalkO q loose XP YP l.row.toRowW d [] (fun f vs => PySem.call f vs) :=
  Att.attach_callB hn hdf fun w s₀ s₁ mg mb fa o pm cd doc a vs ns G Y ho hd hcd hmg hobj hints hlen hbits hg => by
    obtain ⟨fd, cs, sp, hT, nT, C, hb, hsp, hF⟩ := F w mg fa _ Y (hY w _ Y) G.T.g hmg
    exact law_callG (hY w _ Y) G.T.g G.T.b G.T.builtins G.T.nolimit hg hT nT C G.T.bmain hobj hints (Nat.le_trans hlen hn2) hr hF hb (fun H hH hS => hsp H a ns hlen hH hS) fun H e s' => hCX w H s₁ e s'
theorem law_atG {l : PySem.W.OpenLaw} {w : World} {K : PySem.W.Frag} {CX : CXT} {k n : Nat} {mg : Str → Option Value} {fa : Addr} {h : Heap} {fd : FuncData} {R : FR} {ta : List (Addr × Str)} {cs : List (Addr × Addr)}
    (hT : ∀ p ∈ cs, h.get? p.2 = some { cls := .none, data := .fields #[] }) (nT : ∀ p ∈ cs, K.lookup p.2 = none) (hC : ∀ p ∈ cs, PySem.W.CodeHd h p.1 p.2)
    (hb : ∀ (s : Shared) (u : Value), BindsTo s fd ⟨[u], []⟩ [("script", u)]) (hcs : ∀ x ∈ ta, ∃ c, (c, x.1) ∈ cs)
    (hR : ∀ ns : List Int, ns.length ≤ n → R ⟨[.dat (scrD ns)], ta⟩ (.rt (.bool true) ⟨[.dat (scrD ns)], ta⟩))
    (hF : ∀ base : Heap, K.In base → base.Ns mainGlobals mg → (∀ p ∈ cs, TabB base mg p.1 p.2) → FnOkG l.prog w K mg base CX k fa fd ["script"] (spF K R)) : LawAtG l w K CX k n "script" mg fa h :=
  ⟨fd, cs, spF K R, hT, nT, hC, hb, fun H a ns hl ht hs => law_sp (fun x hx => by obtain ⟨c, hc⟩ := hcs x hx; exact ht _ hc) hs (hR ns hl), hF⟩
end GdX

/-! a lambda handed to «try: return repr(call().row()) / except BadPlan as e: ..» -/
namespace GdX
open PySem PySem.Spec PyProof.Rows L2 DL KwX LamX
/-- what that def makes of the lambda's reading -/
def TMet (K : PySem.W.Frag) (CB CP : Addr) (sp : Sp) : (XK → Hp → VK → Prop) → Hp → VK → Prop := fun tl H Q =>
  tl (fun cls d H' => cls = .ref CB ∧ ∃ (dd : Addr) (fs : List (Str × V)) (v : V), d = some dd ∧ H' dd = some (.xd fs) ∧ fs.lookup ("name" : Str) = some v ∧ Q v H') H
    (fun x H1 => ∃ a dx fs, x = .ref a ∧ H1 a = some (.ins CP dx fs) ∧ fs.lookup ("row" : Str) = none ∧ sp [x] H1 (fun y H2 => rDn K reprOk reprD [y] H2 Q) E0)
/-- what the module says of the names in the handler -/
structure MetX (K : PySem.W.Frag) (mg : Str → Option Value) (CB CL : Addr) : Prop where
  gl : mg "LightError" = some (.ref CL)
  gv : mg "ValueError" = none
  gi : mg "isinstance" = none
  gr : mg "repr" = none
  kl : PySem.W.kitOne K (.ref CB) (.ref CL) = some true
  kv : PySem.W.kitOne K (.ref CB) (.type "ValueError") = some true
  xc : ExcCh K CB
theorem he_of0 {env : Env} {o : Expr} {nm : Str} {c e : Pos} (hl : (c.endLine == e.line) = true) (hb : attributeBase o nm env (eval o env) = eval o env) : eval (.Call (.Attribute o nm c) [] [] e) env = (do
      let ov ← eval o env
      standAt c.atName
      let (f, first) ← holding [ov] (getMethod ov nm (do return (← importBound o env).getD true))
      callWith e f first (backTo e (starEach [] env)) (backToKw e (keywordEach [] env))) := by
  rw [arm_eval_Call, hb]
  have hf : methodCallForm (([] : List Expr).length + ([] : List Keyword).length) (backTo e (starEach [] env)) (backToKw e (keywordEach [] env)) = true := by rfl
  have hm : methodCallPos true o env c e = pure e := by
    unfold methodCallPos
    rw [hl]
    rfl
  congr 1
  funext ov
  congr 1
  funext _
  unfold methodCall
  rw [hf, hm]
  rfl
theorem met_gives {X : Cx} {x q : Str} {CB CL CP fI g fr : Addr} {fdr : FuncData} {sp : Sp} {k : Nat} {sg : Scope} {cdg : Value} {j : Nat} {p1 p2 p3 p4 p5 p6 p7 p8 p9 p10 p11 p12 p13 p14 p15 p16 p17 p18 p19 p20 p21 p22 p23 p24 : Pos}
    (T : BX.ExTxt X.prog X.K X.mg "BadPlan" "name" CB fI) (te : PySem.W.exmOne X.K (.ref CB) (.ref CB) = some true) (M : MetX X.K X.mg CB CL)
    (F : FnOk X.prog X.w X.K X.mg X.base (L2.CX X.prog X.w) k fr fdr ["self"] sp) (me : Meth X.K CP "row" fr) (cl : Cls X.K CP) (hb : L2.Binds X.K fdr ["self"] []) (hgd : X.A.guards = some []) (hr : Room (k + 1) X.A)
    (hge : sg.names.lookup ("BadPlan" : Str) = some .globalImplicit) (hle : sg.names.lookup ("e" : Str) = some .local)
    (h1 : sg.names.lookup ("LightError" : Str) = some .globalImplicit) (h2 : sg.names.lookup ("ValueError" : Str) = some .globalImplicit) (h3 : sg.names.lookup ("isinstance" : Str) = some .globalImplicit) (h4 : sg.names.lookup ("repr" : Str) = some .globalImplicit) (hln : (p4.endLine == p5.line) = true) :
    GivesTo X ["call", "e"] x sg g cdg [.Try [.Return (some (.Call (.Name "repr" p1) [.Call (.Attribute (.Call (.Name "call" p2) [] [] p3) "row" p4) [] [] p5] [] p6)) p7] [.ExceptHandler (some (.Name "BadPlan" p8)) (some "e")
      [.Return (some (.IfExp (.BoolOp .And [.Call (.Name "isinstance" p9) [.Name "e" p10, .Name "LightError" p11] [] p12, .Call (.Name "isinstance" p13) [.Name "e" p14, .Name "ValueError" p15] [] p16] p17) (.Attribute (.Name "e" p18) "name" p19) (.Constant (.str "odd") j p20) p21)) p22] p23] [] [] p24] "call" q (TMet X.K CB CP sp) := by
  intro f c' s H Q tl act hc h
  have hgl : Gl (cxOf C8.CX0 X.prog X.w X.K X.mg X.base ["call", "e"] x sg g cdg X.A X.stack s H C8.E0).nox "BadPlan" := hge
  refine ⟨_, pss_one (ps_try_as (X := (cxOf C8.CX0 X.prog X.w X.K X.mg X.base ["call", "e"] x sg g cdg X.A X.stack s H C8.E0).nox) (i := 1) (c := .ref CB)
      (tb := fun W D σ H => ∃ Ech : XK, (∀ cls d σ' H', Ech cls d H' → σ'.length = 2 → W cls d σ' H') ∧ tRet (tCB (rDn X.K reprOk reprD) (tCons (tMeth CP "row" sp [] E0 (fun σZ HZ Q => σZ[0]? = some (some (.ref f)) ∧ HZ c' = some (CodeO c' q) ∧ tl Ech HZ Q) tNil) tNil)) D σ H)
      (ts := fun a cls d => tRet (tIf (tAnd (tB (tCB (rIsX X.K CB a cls d) (tCons (tVar 1) (tCons (tC (.ref CL)) tNil)))) (tB (tCB (rIsX X.K CB a cls d) (tCons (tVar 1) (tCons (tC (.ty "ValueError")) tNil))))) (tXf a cls d CB "name" (tVar 1)) (tC (.str "odd"))))
      rfl rfl (show (["call", "e"] : List Str).Nodup by decide +kernel) rfl hle ⟨hgl, by decide, .inl T.gC⟩ L2.takes0 (fun W pn xe tk _ => ?_) (fun a oe cls d pn hz hf => ?_)), ?_⟩
  · refine ⟨fun pins s' σ H' D I h' => ?_⟩
    obtain ⟨Ech, hW, h5⟩ := h'
    have hp := act _ pn xe Ech p2 p3 (BX.takes_len tk) hW
    have hr1 : Room k ((cxOf C8.CX0 X.prog X.w X.K X.mg X.base ["call", "e"] x sg g cdg X.A X.stack s H C8.E0).tr pn xe).A := hr.deeper _
    have hm := pe_meth0 (apos := p4) (pos := p5) (E := E0) hp cl me F hr1 hb .nil L2.passL (he_of0 hln rfl)
    have hx := pe_callB (p := p1) (pos := p6) (X := (cxOf C8.CX0 X.prog X.w X.K X.mg X.base ["call", "e"] x sg g cdg X.A X.stack s H C8.E0).tr pn xe) (call_reprU hgd (by have := hr1.un; omega)) h4 M.gr (by decide +kernel) (pa_cons hm pa_nil)
    exact (pss_one (ps_ret (pos := p7) hx)).run pins s' σ H' D I h5
  · refine pss_one (ps_ret (pe_ifExp (PW.pt (pw_and (pt_val ?_) (pw_and1 (pt_val ?_)))) (pe_xf T.xf T.noN hz hf (pv 1 rfl (.inl hle))) pe_str))
    · exact pe_callB (call_isX M.xc hz hf) h3 M.gi (by decide +kernel) (pa_cons (pv 1 rfl (.inl hle)) (pa_cons (pe_glob h1 M.gl rfl) pa_nil))
    · exact pe_callB (call_isX M.xc hz hf) h3 M.gi (by decide +kernel) (pa_cons (pv 1 rfl (.inl hle)) (pa_cons (pe_bltn (v := .ty "ValueError") h2 M.gv (by decide +kernel) rfl) pa_nil))
  · refine ⟨fun cls d H' => cls = .ref CB ∧ ∃ (dd : Addr) (fs : List (Str × V)) (v : V), d = some dd ∧ H' dd = some (.xd fs) ∧ fs.lookup ("name" : Str) = some v ∧ Q v H', ?_, rfl, hc, h⟩
    rintro cls d σ' H' ⟨rfl, dd, fs, v, rfl, g1, g2, g3⟩ hlen
    refine ⟨true, te, fun _ a ha => ?_, fun z => Bool.noConfusion z⟩
    obtain ⟨x0, x1, rfl⟩ : ∃ x0 x1, σ' = [x0, x1] := by
      match σ', hlen with
      | [a, b], _ => exact ⟨a, b, rfl⟩
    refine ⟨.ref a, rfl, .ref CL, .ref CL, true, fs, dd, rfl, rfl, rfl, g1, .own CL, M.kl, true, rfl, ?_⟩
    refine ⟨.ref a, rfl, .ty "ValueError", .type "ValueError", true, fs, dd, rfl, rfl, rfl, g1, .ty "ValueError", M.kv, true, rfl, ?_⟩
    exact ⟨.ref a, rfl, rfl, rfl, dd, fs, v, rfl, g1, g2, g3⟩
section
variable {X : Cx} {x : Str} {CB CL CP fI fr g c P : Addr} {fdr : FuncData} {sp : Sp} {k : Nat} {st : Stmt} {fdg : FuncData} {T : List (Addr × Str)} {params : Arguments} {body : Expr} {scope : Scope} {t : XK → TE} {p lpos pos : Pos} {j : Nat} {p1 p2 p3 p4 p5 p6 p7 p8 p9 p10 p11 p12 p13 p14 p15 p16 p17 p18 p19 p20 p21 p22 p23 p24 : Pos}
theorem lam_met (F : Fun X.K x x st g fdg) (Sg : FnScope ["call", "e"] ["call"] (defScope st)) (hst : defBody st = [.Try [.Return (some (.Call (.Name "repr" p1) [.Call (.Attribute (.Call (.Name "call" p2) [] [] p3) "row" p4) [] [] p5] [] p6)) p7] [.ExceptHandler (some (.Name "BadPlan" p8)) (some "e")
      [.Return (some (.IfExp (.BoolOp .And [.Call (.Name "isinstance" p9) [.Name "e" p10, .Name "LightError" p11] [] p12, .Call (.Name "isinstance" p13) [.Name "e" p14, .Name "ValueError" p15] [] p16] p17) (.Attribute (.Name "e" p18) "name" p19) (.Constant (.str "odd") j p20) p21)) p22] p23] [] [] p24])
    (TX : BX.ExTxt X.prog X.K X.mg "BadPlan" "name" CB fI) (te : PySem.W.exmOne X.K (.ref CB) (.ref CB) = some true) (M : MetX X.K X.mg CB CL)
    (Fr : FnOk X.prog X.w X.K X.mg X.base (L2.CX X.prog X.w) (k + 1) fr fdr ["self"] sp) (me : Meth X.K CP "row" fr) (cl : Cls X.K CP) (hbr : L2.Binds X.K fdr ["self"] []) (hgd : X.A.guards = some [])
    (hge : (defScope st).names.lookup ("BadPlan" : Str) = some .globalImplicit) (hle : (defScope st).names.lookup ("e" : Str) = some .local) (hva : Vis (defScope st) "call")
    (h1 : (defScope st).names.lookup ("LightError" : Str) = some .globalImplicit) (h2 : (defScope st).names.lookup ("ValueError" : Str) = some .globalImplicit) (h3 : (defScope st).names.lookup ("isinstance" : Str) = some .globalImplicit) (h4 : (defScope st).names.lookup ("repr" : Str) = some .globalImplicit)
    (hln : (p4.endLine == p5.line) = true) (hb : ∀ kV doc pm an cdv ct, L2.Binds X.K (PySem.W.fnOf x x (defArgs st) (defBody st) (defScope st) .none kV doc pm an cdv ct) ["call"] [])
    (hm : X.mg x = some (.ref g)) (hg : Gl X x) (TB : TabB X.base X.mg c P) (hcode : X.env.code = .ref c) (hmT : (P, X.env.qual ++ "<lambda>") ∈ T) (hu : ∀ p ∈ T, p.1 = P → p.2 = X.env.qual ++ "<lambda>") (hr : Room (k + 2) X.A) (L : LamS X.env.scope scope) (hdef : defaultsOf params X.env = ([], []))
    (hbind : ∀ (q : Str) (cl : List (Str × Addr)) (pm cv ctv : Value), bindArgs (PySem.W.kla_fn "<lambda>" q params body scope cl pm cv ctv) ⟨[], []⟩ = pure [])
    (hbody : ∀ (A : Around) (outer : List Env) (s : Shared) (H : Hp) (E : XK) (f c' : Addr), Room k (A.deeper (lamEnv X scope s.heap.objs.size f c')) → PE (lamCx X A outer s H E scope f c') body (t E))
    (hdb : (x == ("__debug__" : Str)) = false := by decide) :
    PE X (.Call (.Name x p) [.Lambda params body scope lpos] [] pos) (tLam T (TMet X.K CB CP sp) t) := by
  obtain ⟨oc, od, kV, doc, pm, an, cdv, ct, osl, rfl, lk, hcd⟩ := F.ex
  refine pe_lamcall (a := "call") (Ng := ["call", "e"]) hg hm F.kp lk hcd (hb _ _ _ _ _ _) Sg rfl hva ?_ TB hcode hmT hu hr L hdef hbind hbody hdb
  rw [hst]
  exact met_gives TX te M Fr me cl hbr hgd hr hge hle h1 h2 h3 h4 hln
end
/-! by data -/
section
variable {K : PySem.W.Frag} {E : XK} {s s' : S} {d : D} {CB CP : Addr} {t : XK → TE}
theorem ev_lamMet {R : FR} {os : List (D × D)} (h : ∀ E, Ev K (t E) s (objD CP os) s') (hn : dlook os (.inr "row") = none) (hR : R ⟨[.dat (objD CP os)], s'.g⟩ (.rt d ⟨[.dat (objD CP os)], s'.g⟩)) (ok : reprOk [d]) :
    Ev K (tLam s.g (TMet K CB CP (spF K R)) t) s (.str d.shown) s' := fun σ H F fp e Q q =>
  ⟨e.tb, fun H1 eN T1 => by
    obtain ⟨e1, st1⟩ := e.lam eN T1
    refine h _ σ H1 F fp e1 _ fun v H2 F2 fp2 e2 st2 a2 => ?_
    obtain ⟨a, dx, fs, rfl, h1, h2, t⟩ := obj_inv a2
    refine ⟨a, dx, fs, rfl, e2.ex _ _ h1, look_none t hn, _, F2, noF, _, env_dat (ds := [objD CP os]) e2 (.cons a2 .nil), hR, fun v H' F' fp' e' st a => ?_⟩
    obtain ⟨e3, st3⟩ := frame0 e2 e' st rfl
    exact ⟨F', [d], e3.ex, .cons (.inl a) .nil, ok, fun v H'' F'' g a => q v H'' F'' fp2 (e3.grow g) (((st1.trans st2).trans st3).trans (e3.growS g)) a⟩⟩
theorem ev_lamMetX {R : FR} (h : ∀ E, EvR K E (t E) s CB "name" d s') : Ev K (tLam s.g (TMet K CB CP (spF K R)) t) s d s' := fun σ H F fp e Q q =>
  ⟨e.tb, fun H1 eN T1 => by
    obtain ⟨e1, st1⟩ := e.lam eN T1
    exact h _ σ H1 F fp e1 _ fun dd v H' F' fp' e' st' a b => ⟨rfl, dd, [("name", v)], v, rfl, e'.ex _ _ a, by simp [List.lookup], q v H' F' fp' e' (st1.trans st') b⟩⟩
end
end GdX

/-! d.update({..}), != of names -/
namespace GdX
open PySem PySem.Spec PySem.W PyProof.Rows L2 DL KwX
def rUpd : V → List V → Hp → VK → Prop := fun x vs H Q => ∃ d o kvs more, x = .ref d ∧ vs = [.ref o] ∧ H d = some (.dK kvs) ∧ Rd H o (.dK more) ∧ d ≠ o ∧ kvs.length + more.length ≤ sizeLine ∧ Q .non (upd H d (.dK (mergeK kvs more)))
theorem mt_update {X : Cx} : MtR X "dict.update" rUpd := by
  intro pins s σ H x vs v us Q I rx rv h
  obtain ⟨d, o, kvs, more, rfl, rfl, hp, ho, hne, hl, q⟩ := h
  cases rx
  obtain ⟨u, rfl, ru⟩ := rv.one
  cases ru
  obtain ⟨z0, low0, vs0, rel0, dd0⟩ := dk_of I.hok hp
  obtain ⟨z, low, vs1, rel, dd⟩ := dk_rd I.hok ho
  have l0 : kvs.length = vs0.length := by have := rel0.length; exact this
  have l1 : more.length = vs1.length := by have := rel.length; exact this
  refine call_meetsIn F.slot_dict_update dd0.typeIs F.entry_dict_update (F.args_dict_update_2 _ _) (meets_dict_update (mixKind X.prog X.w) d o hne low) ⟨vs0, vs1, dd0, dd, by omega, fun h' d1 _ sb => ?_⟩
  have he : ∃ q, h'.get? d = some q := let ⟨q, _, _, hq, _⟩ := d1; ⟨q, hq⟩
  have hz : (mergeK kvs more).length ≤ sizeLine := by
    have h1 := length_mergeK more kvs
    omega
  exact ⟨.non, _, d_write (t' := s.toks) I (by rw [hp]; exact True.intro) sb he (dk_new hz low0 (rel.merge rel0) d1), rfl, q⟩
section
variable {K : PySem.W.Frag} {E : XK} {s s1 : S}
theorem kV_inj : ∀ {a b : Key}, kV a = kV b → a = b
  | .inl i, .inl j, h => by cases h; rfl
  | .inl i, .inr j, h => by cases h
  | .inr i, .inl j, h => by cases h
  | .inr i, .inr j, h => by cases h; rfl
theorem atps_keys {F : Hp} : ∀ {js : List (Key × V)} {ps : List (Key × D)}, AtPs K F (js.map fun kv => (kV kv.1, kv.2)) ps → js.map (·.1) = ps.map (·.1)
  | [], ps, h => by
    cases h
    rfl
  | (k, v) :: js, ps, h => by
    generalize e : List.map (fun kv : Key × V => (kV kv.1, kv.2)) ((k, v) :: js) = l at h
    cases h with
    | nil => cases e
    | cons h1 h2 =>
      rw [List.map_cons] at e
      have e1 := (List.cons.inj e).1
      have e2 := (List.cons.inj e).2
      have e3 := kV_inj (Prod.mk.inj e1).1
      subst e2
      rw [List.map_cons, List.map_cons, atps_keys h2, e3]
/-- d.update({..}) -/
theorem run_upd {i : Nat} {ov ov' : Option V} {ds ds' : List (D × D)} {trs : List (TE × TE)} {ps : List (Key × D)} (hi : s.s[i]? = some (.res (dctR K ov ds))) (h : EvPs K trs s ps s1) (hl : ps.length ≤ 15) (hi1 : s1.s[i]? = some (.res (dctR K ov' ds'))) (hz : ds'.length + ps.length ≤ sizeLine) (nd : (ps.map (·.1)).Nodup) :
    Run K E (tDrop (tBM K "dict" rUpd (tVar i) (tCons (tDisp trs) tNil))) s (.nx (s1.set i (.res (dctR K ov' (dmerge ds' ps))))) := fun σ H F fp e Ed q => by
  obtain ⟨a, o, h1, _, h4, kvs, h5, h6⟩ := e.cell hi
  subst h5
  refine ⟨.ref a, h1, .inr (.inr (.inl ⟨rfl, .inl ⟨kvs, h4⟩⟩)), ?_⟩
  show tDisp trs σ H _
  intro p hp
  have e0 := e.growH (o := .dK []) hp
  have st0 : Step H F fp (upd H p (.dK [])) F fp := Step.growH hp
  refine h σ _ F fp e0 _ fun vs H1 F1 fp1 e1 st1 a1 => ?_
  have hpF : F p = none := e.ex.un hp
  have hfp : ∀ i, ¬ fp i p := fun i hi => (e.th i p hi).ne hp rfl
  have nt : ∀ l, NoTbl (HO.dK l) := fun l => by intro ps z; cases z
  have ne : ∀ l, NoExt (HO.dK l) := fun l => by intro ps z; cases z
  obtain ⟨hp1, hF1, nf1⟩ := lone_keep st1 upd_same (nt _) hpF hfp
  obtain ⟨js, e2, e3, e4⟩ := a1.un
  refine ⟨hp1, js, e2, by omega, ?_⟩
  have e5 := lone_env (o := .dK (mergeK [] js)) e1 hp1 (nt _) (ne _) hF1 nf1
  have st5 := lone_step (o := .dK (mergeK [] js)) (st0.trans st1) hp
  obtain ⟨a', o', g1, _, g4, kvs', g5, g6⟩ := e5.cell hi1
  rw [h1] at g1
  cases g1
  subst g5
  have hap : a ≠ p := fun z => by subst z; rw [h4] at hp; cases hp
  have hm' : mergeK [] js = js := mergeK_nil (by rw [atps_keys (by rw [← e2]; exact a1)]; exact nd)
  refine ⟨a, p, kvs', mergeK [] js, rfl, rfl, g4, .inl upd_same, hap, by rw [g6.len, hm']; omega, ?_⟩
  obtain ⟨e6, st6⟩ := e5.putC (x' := dctC K (dmerge ds' ps)) hi1 h1 (o' := .dK (mergeK kvs' (mergeK [] js))) ⟨_, rfl, by rw [hm']; exact e4 g6⟩
  exact q σ _ F1 fp1 e6 (st5.trans st6)
end
section
variable {K : PySem.W.Frag} {E : XK} {s s1 : S} {te : TE}
theorem pairs_of {F H : Hp} (e : Ex F H) : ∀ {ps : List (Key × D)} {vs : List V}, AtAll K F vs (ps.map fun p => .tuple [keyD p.1, p.2]) → ∃ (as : List Addr) (kvs : List (Key × V)), vs = as.map V.ref ∧ Paired (fun p kv => SqT K H p [kV kv.1, kv.2]) as kvs ∧ AtKV K F kvs (kdL ps) ∧ kvs.map (·.1) = ps.map (·.1)
  | [], vs, h => by
    cases h
    exact ⟨[], [], rfl, .nil, .nil, rfl⟩
  | (k, d) :: ps, vs, h => by
    rw [List.map_cons] at h
    cases h with
    | cons h1 h2 =>
      obtain ⟨as, kvs, rfl, g1, g2, g3⟩ := pairs_of e h2
      cases h1 with
      | tup t1 t2 =>
        cases t2 with
        | cons a1 a2 =>
          cases a2 with
          | cons b1 b2 =>
            cases b2
            rw [at_key a1] at t1
            exact ⟨_ :: as, (k, _) :: kvs, rfl, .cons (e.sqT t1) g1, .cons b1 g2, by rw [List.map_cons, List.map_cons, g3]⟩
/-- dict(pairs) -/
theorem eo_dictP {ps : List (Key × D)} (h : Ev K te s (.list (ps.map fun p => .tuple [keyD p.1, p.2])) s1) (nd : (ps.map (·.1)).Nodup) : EvO K (tCB (rDictP K) (tCons te tNil)) s (dctR K none (kdL ps)) s1 := fun σ H F fp e Q q =>
  h σ H F fp e _ fun v H1 F1 fp1 e1 st1 a1 => by
    cases a1 with
    | lst h1 t =>
      obtain ⟨as, kvs, rfl, g1, g2, g3⟩ := pairs_of e1.ex t
      refine ⟨_, as, kvs, rfl, .inl (.inl (e1.ex _ _ h1)), g1, fun p hp => ?_⟩
      rw [mergeK_nil (by rw [g3]; exact nd)]
      exact cell_new (x := dctC K (kdL ps)) rfl e1 st1 hp ⟨kvs, rfl, g2⟩ q
end
end GdX

/-! the choices of plans -/
namespace CM
open PySem PySem.Spec PyProof.Rows L2 DL KwX
def plPs (p : PL) : List (Str × D) := [("rows", .int p.rows), ("lamps", .int p.lamps), ("crews", .int p.crews), ("work", .int p.work), ("every", .int p.every), ("early", .int p.early), ("sync", .int p.sync), ("burst", .int p.burst), ("gap", .int p.gap), ("trips", .int p.trips), ("drift", .int p.drift), ("cloud", .int p.cloud), ("most", .int p.most), ("fixed", .int p.fixed), ("spare", .int p.spare)]
theorem plKV_kw {p : PL} : plKV p = kwD (plPs p) := rfl
def dfP : PL := ⟨2, 2, 2, 4, 6, 12, 3, 2, 6, 1, 2, 5, 9, 20, 30⟩
def toK (ps : List (Str × D)) : List (Key × D) := ps.map fun x => (.inr x.1, x.2)
theorem kd_toK (ps : List (Str × D)) : kdL (toK ps) = kwD ps := by
  unfold toK
  rw [kdL, List.map_map]
  rfl
def chNames : List Str := ["rows", "lamps", "crews", "work", "every", "early", "sync", "burst", "gap", "trips", "drift", "cloud", "most", "fixed", "spare"]
def bdT : List (Str × Int × Int) := [("rows", 1, 3), ("lamps", 1, 4), ("crews", 1, 4), ("work", 1, 12), ("every", 1, 12), ("early", 0, 60), ("sync", 1, 10), ("burst", 1, 6), ("gap", 1, 12), ("trips", 0, 3), ("drift", 0, 5), ("cloud", 0, 30), ("most", 0, 100), ("fixed", 0, 100), ("spare", 0, 200)]
def bdD : List (D × D) := bdT.map fun t => (.str t.1, .tuple [.int t.2.1, .int t.2.2])
/-- the dict of all choices -/
def fdL (ps : List (Str × D)) : List (D × D) := dmerge (plKV dfP) (toK ps)
theorem df_merge : dmerge [] (toK (plPs dfP)) = plKV dfP := by kernel_rfl
theorem fd_pl (p : PL) : fdL (plPs p) = plKV p := by kernel_rfl
def isKnown (x : Str × D) : Bool := (dlook (plKV dfP) (.inr x.1)).isSome
theorem known_pl (p : PL) : (plPs p).all isKnown = true := by kernel_rfl
theorem pl_nodup (p : PL) : ((plPs p).map (·.1)).Nodup := by
  have : (plPs p).map (·.1) = chNames := rfl
  rw [this]
  decide +kernel
theorem pl_self (p : PL) : ("self" : Str) ∉ (plPs p).map (·.1) := by
  have : (plPs p).map (·.1) = chNames := rfl
  rw [this]
  decide +kernel
/-- a value by its name -/
def plGet (p : PL) (i : Nat) : Int := [p.rows, p.lamps, p.crews, p.work, p.every, p.early, p.sync, p.burst, p.gap, p.trips, p.drift, p.cloud, p.most, p.fixed, p.spare].getD i 0
theorem ok_get {p : PL} (h : POk p) : ∀ i < 15, (bdT.getD i ("", 0, 0)).2.1 ≤ plGet p i ∧ plGet p i ≤ (bdT.getD i ("", 0, 0)).2.2 := by
  intro i hi
  match i, hi with
  | 0, _ => exact h.rows
  | 1, _ => exact h.lamps
  | 2, _ => exact h.crews
  | 3, _ => exact h.work
  | 4, _ => exact h.every
  | 5, _ => exact h.early
  | 6, _ => exact h.sync
  | 7, _ => exact h.burst
  | 8, _ => exact h.gap
  | 9, _ => exact h.trips
  | 10, _ => exact h.drift
  | 11, _ => exact h.cloud
  | 12, _ => exact h.most
  | 13, _ => exact h.fixed
  | 14, _ => exact h.spare
theorem look_get {p : PL} : ∀ i < 15, dlook (plKV p) (.inr (chNames.getD i "")) = some (.int (plGet p i)) := by
  intro i hi
  match i, hi with
  | 0, _ => exact pl_rows
  | 1, _ => exact pl_lamps
  | 2, _ => exact pl_crews
  | 3, _ => exact pl_work
  | 4, _ => exact pl_every
  | 5, _ => exact pl_early
  | 6, _ => exact pl_sync
  | 7, _ => exact pl_burst
  | 8, _ => exact pl_gap
  | 9, _ => exact pl_trips
  | 10, _ => exact pl_drift
  | 11, _ => exact pl_cloud
  | 12, _ => exact pl_most
  | 13, _ => exact pl_fixed
  | 14, _ => exact pl_spare
theorem bd_look : ∀ i < 15, dlook bdD (.inr (chNames.getD i "")) = some (.tuple [.int (bdT.getD i ("", 0, 0)).2.1, .int (bdT.getD i ("", 0, 0)).2.2]) := by
  intro i hi
  match i, hi with
  | 0, _ => kernel_rfl
  | 1, _ => kernel_rfl
  | 2, _ => kernel_rfl
  | 3, _ => kernel_rfl
  | 4, _ => kernel_rfl
  | 5, _ => kernel_rfl
  | 6, _ => kernel_rfl
  | 7, _ => kernel_rfl
  | 8, _ => kernel_rfl
  | 9, _ => kernel_rfl
  | 10, _ => kernel_rfl
  | 11, _ => kernel_rfl
  | 12, _ => kernel_rfl
  | 13, _ => kernel_rfl
  | 14, _ => kernel_rfl
/-- a plan -/
def plF (p : PL) : List (D × D) := (.str "_found", plD p) :: plKV p
def plO (C : Str → Addr) (p : PL) : D := objD (C "Plan") (plF p)
def rowL (p : PL) : List D := (plPs p).map (·.2)
theorem pf_found {p : PL} : dlook (plF p) (.inr "_found") = some (plD p) := by kernel_rfl
theorem pf_rows {p : PL} : dlook (plF p) (.inr "rows") = some (.int p.rows) := by kernel_rfl
theorem pf_lamps {p : PL} : dlook (plF p) (.inr "lamps") = some (.int p.lamps) := by kernel_rfl
theorem pf_crews {p : PL} : dlook (plF p) (.inr "crews") = some (.int p.crews) := by kernel_rfl
theorem pf_work {p : PL} : dlook (plF p) (.inr "work") = some (.int p.work) := by kernel_rfl
theorem pf_every {p : PL} : dlook (plF p) (.inr "every") = some (.int p.every) := by kernel_rfl
theorem pf_early {p : PL} : dlook (plF p) (.inr "early") = some (.int p.early) := by kernel_rfl
theorem pf_sync {p : PL} : dlook (plF p) (.inr "sync") = some (.int p.sync) := by kernel_rfl
theorem pf_burst {p : PL} : dlook (plF p) (.inr "burst") = some (.int p.burst) := by kernel_rfl
theorem pf_gap {p : PL} : dlook (plF p) (.inr "gap") = some (.int p.gap) := by kernel_rfl
theorem pf_trips {p : PL} : dlook (plF p) (.inr "trips") = some (.int p.trips) := by kernel_rfl
theorem pf_drift {p : PL} : dlook (plF p) (.inr "drift") = some (.int p.drift) := by kernel_rfl
theorem pf_cloud {p : PL} : dlook (plF p) (.inr "cloud") = some (.int p.cloud) := by kernel_rfl
theorem pf_most {p : PL} : dlook (plF p) (.inr "most") = some (.int p.most) := by kernel_rfl
theorem pf_fixed {p : PL} : dlook (plF p) (.inr "fixed") = some (.int p.fixed) := by kernel_rfl
theorem pf_spare {p : PL} : dlook (plF p) (.inr "spare") = some (.int p.spare) := by kernel_rfl
theorem pf_row {p : PL} : dlook (plF p) (.inr "row") = none := by kernel_rfl
theorem pf_changed {p : PL} : dlook (plF p) (.inr "changed") = none := by kernel_rfl
/-- what the package's written part must hold -/
structure Pk (P : Program) (w : World) (K : PySem.W.Frag) (C : Str → Addr) : Prop where
  ch : ∀ F, At K F (.ref (C "CHOICES")) (.tuple (chNames.map .str))
  df : WrDat P w K (C "DEFAULTS") (plKV dfP)
  bd : WrDat P w K (C "BOUNDS") bdD
  ob : ObC K (C "Plan")
  na : ∀ f ∈ ("_found" : Str) :: chNames, NoAttr K (C "Plan") f
end CM

/-! choices of any kind: what is refused -/
namespace CM
open PySem PySem.Spec PyProof.Rows L2 DL KwX
def cN (i : Nat) : Str := chNames.getD i ""
def cLo (i : Nat) : Int := (bdT.getD i ("", 0, 0)).2.1
def cHi (i : Nat) : Int := (bdT.getD i ("", 0, 0)).2.2
/-- a whole number within the bounds of the i-th choice -/
def good (v : D) (i : Nat) : Bool := match v with
  | .int n => decide (cLo i ≤ n) && decide (n ≤ cHi i)
  | _ => false
def aPs (f : Nat → D) : List (Str × D) := [("rows", f 0), ("lamps", f 1), ("crews", f 2), ("work", f 3), ("every", f 4), ("early", f 5), ("sync", f 6), ("burst", f 7), ("gap", f 8), ("trips", f 9), ("drift", f 10), ("cloud", f 11), ("most", f 12), ("fixed", f 13), ("spare", f 14)]
def aKV (f : Nat → D) : List (D × D) := [(.str "rows", f 0), (.str "lamps", f 1), (.str "crews", f 2), (.str "work", f 3), (.str "every", f 4), (.str "early", f 5), (.str "sync", f 6), (.str "burst", f 7), (.str "gap", f 8), (.str "trips", f 9), (.str "drift", f 10), (.str "cloud", f 11), (.str "most", f 12), (.str "fixed", f 13), (.str "spare", f 14)]
def aD (f : Nat → D) : D := .dict (aKV f)
theorem aKV_kw {f : Nat → D} : aKV f = kwD (aPs f) := rfl
theorem fd_a (f : Nat → D) : fdL (aPs f) = aKV f := by kernel_rfl
theorem known_a (f : Nat → D) : (aPs f).all isKnown = true := by kernel_rfl
theorem a_nodup (f : Nat → D) : ((aPs f).map (·.1)).Nodup := by
  have : (aPs f).map (·.1) = chNames := rfl
  rw [this]
  decide +kernel
theorem a_self (f : Nat → D) : ("self" : Str) ∉ (aPs f).map (·.1) := by
  have : (aPs f).map (·.1) = chNames := rfl
  rw [this]
  decide +kernel
theorem look_a {f : Nat → D} : ∀ i < 15, dlook (aKV f) (.inr (cN i)) = some (f i) := by
  intro i hi
  match i, hi with
  | 0, _ => kernel_rfl
  | 1, _ => kernel_rfl
  | 2, _ => kernel_rfl
  | 3, _ => kernel_rfl
  | 4, _ => kernel_rfl
  | 5, _ => kernel_rfl
  | 6, _ => kernel_rfl
  | 7, _ => kernel_rfl
  | 8, _ => kernel_rfl
  | 9, _ => kernel_rfl
  | 10, _ => kernel_rfl
  | 11, _ => kernel_rfl
  | 12, _ => kernel_rfl
  | 13, _ => kernel_rfl
  | 14, _ => kernel_rfl
def setF (f : Nat → D) (i : Nat) (v : D) : Nat → D := fun j => if j = i then v else f j
theorem put_a {f : Nat → D} {v : D} : ∀ i < 15, dput (aKV f) (.inr (cN i)) v = aKV (setF f i v) := by
  intro i hi
  match i, hi with
  | 0, _ => kernel_rfl
  | 1, _ => kernel_rfl
  | 2, _ => kernel_rfl
  | 3, _ => kernel_rfl
  | 4, _ => kernel_rfl
  | 5, _ => kernel_rfl
  | 6, _ => kernel_rfl
  | 7, _ => kernel_rfl
  | 8, _ => kernel_rfl
  | 9, _ => kernel_rfl
  | 10, _ => kernel_rfl
  | 11, _ => kernel_rfl
  | 12, _ => kernel_rfl
  | 13, _ => kernel_rfl
  | 14, _ => kernel_rfl
def pF (p : PL) : Nat → D := fun i => .int (plGet p i)
theorem aKV_pl (p : PL) : aKV (pF p) = plKV p := rfl
theorem aPs_pl (p : PL) : aPs (pF p) = plPs p := rfl
/-- the first one that is refused -/
def badN (f : Nat → D) : Option Nat := (List.range 15).find? fun i => !good (f i) i
theorem bad_some {f : Nat → D} {i : Nat} (h : badN f = some i) : i < 15 ∧ good (f i) i = false ∧ ∀ j < i, good (f j) j = true := by
  unfold badN at h
  obtain ⟨h1, as, bs, e, h2⟩ := List.find?_eq_some_iff_append.mp h
  have hl : as.length + (bs.length + 1) = 15 := by
    have := congrArg List.length e
    simpa using this.symm
  have hi : i = as.length := by
    have : (List.range 15)[as.length]? = some i := by rw [e]; simp
    rw [List.getElem?_range (by omega)] at this
    exact (Option.some.inj this).symm
  refine ⟨by omega, by simpa using h1, fun j hj => ?_⟩
  have hm : j ∈ as := by
    have : (List.range 15)[j]? = some j := List.getElem?_range (by omega)
    rw [e, List.getElem?_append_left (by omega)] at this
    exact List.mem_of_getElem? this
  simpa using h2 j hm
theorem bad_none {f : Nat → D} (h : badN f = none) : ∀ i < 15, good (f i) i = true := by
  intro i hi
  have := List.find?_eq_none.mp h i (List.mem_range.mpr hi)
  simpa using this
theorem good_int {v : D} {i : Nat} (h : good v i = true) : ∃ n, v = .int n ∧ cLo i ≤ n ∧ n ≤ cHi i := by
  cases v with
  | int n =>
    unfold good at h
    simp only [Bool.and_eq_true, decide_eq_true_eq] at h
    exact ⟨n, rfl, h⟩
  | _ => cases h
theorem bad_pl {f : Nat → D} (h : badN f = none) : ∃ p, POk p ∧ aKV f = plKV p ∧ aPs f = plPs p ∧ ∀ i < 15, f i = .int (plGet p i) := by
  have hg := fun i hi => good_int (bad_none h i hi)
  obtain ⟨n0, e0, b0⟩ := hg 0 (by decide)
  obtain ⟨n1, e1, b1⟩ := hg 1 (by decide)
  obtain ⟨n2, e2, b2⟩ := hg 2 (by decide)
  obtain ⟨n3, e3, b3⟩ := hg 3 (by decide)
  obtain ⟨n4, e4, b4⟩ := hg 4 (by decide)
  obtain ⟨n5, e5, b5⟩ := hg 5 (by decide)
  obtain ⟨n6, e6, b6⟩ := hg 6 (by decide)
  obtain ⟨n7, e7, b7⟩ := hg 7 (by decide)
  obtain ⟨n8, e8, b8⟩ := hg 8 (by decide)
  obtain ⟨n9, e9, b9⟩ := hg 9 (by decide)
  obtain ⟨n10, e10, b10⟩ := hg 10 (by decide)
  obtain ⟨n11, e11, b11⟩ := hg 11 (by decide)
  obtain ⟨n12, e12, b12⟩ := hg 12 (by decide)
  obtain ⟨n13, e13, b13⟩ := hg 13 (by decide)
  obtain ⟨n14, e14, b14⟩ := hg 14 (by decide)
  refine ⟨⟨n0, n1, n2, n3, n4, n5, n6, n7, n8, n9, n10, n11, n12, n13, n14⟩, ⟨b0, b1, b2, b3, b4, b5, b6, b7, b8, b9, b10, b11, b12, b13, b14⟩, ?_, ?_, ?_⟩
  · unfold aKV plKV; rw [e0, e1, e2, e3, e4, e5, e6, e7, e8, e9, e10, e11, e12, e13, e14]
  · unfold aPs plPs; rw [e0, e1, e2, e3, e4, e5, e6, e7, e8, e9, e10, e11, e12, e13, e14]
  · intro i hi
    match i, hi with
    | 0, _ => exact e0
    | 1, _ => exact e1
    | 2, _ => exact e2
    | 3, _ => exact e3
    | 4, _ => exact e4
    | 5, _ => exact e5
    | 6, _ => exact e6
    | 7, _ => exact e7
    | 8, _ => exact e8
    | 9, _ => exact e9
    | 10, _ => exact e10
    | 11, _ => exact e11
    | 12, _ => exact e12
    | 13, _ => exact e13
    | 14, _ => exact e14
theorem pl_good {p : PL} (ok : POk p) : badN (pF p) = none := by
  refine List.find?_eq_none.mpr fun i hi => ?_
  have hi' := List.mem_range.mp hi
  have o1 : cLo i ≤ plGet p i := (ok_get ok i hi').1
  have o2 : plGet p i ≤ cHi i := (ok_get ok i hi').2
  show ¬ (!(decide _ && decide _)) = true
  rw [decide_eq_true o1, decide_eq_true o2]
  decide
/-- the name that BadPlan tells -/
inductive BadP (ps : List (Str × D)) : Str → Prop
  | unk {x : Str × D} {k : Nat} (hx : ps[k]? = some x) (hu : isKnown x = false) (h : ∀ j y, j < k → ps[j]? = some y → isKnown y = true) : BadP ps x.1
  | val {f : Nat → D} {i : Nat} (h1 : ps.all isKnown = true) (hf : fdL ps = aKV f) (hn : ∀ i < 15, noScr (f i) = true) (hb : badN f = some i) : BadP ps (cN i)
theorem bad_a {f : Nat → D} {i : Nat} (hn : ∀ i < 15, noScr (f i) = true) (hb : badN f = some i) : BadP (aPs f) (cN i) := .val (known_a f) (fd_a f) hn hb
end CM

/-! for laws without MQb -/
namespace CM
open PySem PySem.Spec PyProof.Rows L2 DL KwX
theorem eqv_str {a b : Str} : PyData.eqv (.str a) (.str b) = decide (a = b) := by
  unfold PyData.eqv
  by_cases h : a = b <;> simp [h]
section
variable {P : Program} {w : World} {K : PySem.W.Frag} {C : Str → Addr} {s s1 s2 : S} {te ta tb : TE} {d : D} {p : PL}
theorem ev_eqSS {a b : Str} (ha : Ev K ta s (.str a) s1) (hb : Ev K tb s1 (.str b) s2) (h1 : PyData.strOk a = true) (h2 : PyData.strOk b = true) : Ev K (tOp (rD2 K eqOk eqD) ta tb) s (.bool (decide (a = b))) s2 := by
  have := ev_eqT ha hb ⟨(sh_str (n := 0) h1).ok (by decide), (sh_str (n := 0) h2).ok (by decide)⟩
  rw [eqv_str] at this
  exact this
theorem ev_neSS {a b : Str} (ha : Ev K ta s (.str a) s1) (hb : Ev K tb s1 (.str b) s2) (h1 : PyData.strOk a = true) (h2 : PyData.strOk b = true) : Ev K (tOp (rD2 K eqOk neD) ta tb) s (.bool (!decide (a = b))) s2 := by
  have := ev_neT ha hb ⟨(sh_str (n := 0) h1).ok (by decide), (sh_str (n := 0) h2).ok (by decide)⟩
  rw [eqv_str] at this
  exact this
theorem ev_fldP {f : Str} (h : Ev K te s (plO C p) s1) (hk : Pk P w K C) (hf : (("_found" : Str) :: chNames).contains f = true) (hd : dlook (plF p) (.inr f) = some d) : Ev K (tFld K te f) s d s1 :=
  ev_fld h hk.ob.cl (hk.na f (by simpa using hf)) hd
end
end CM

/-! the texts of tuples and lists of whole numbers -/
namespace CM
open PySem PySem.Spec PyProof.Rows L2 DL
theorem sok_app {a b : Str} (h1 : PyData.strOk a = true) (h2 : PyData.strOk b = true) : PyData.strOk (a ++ b) = true := by
  unfold PyData.strOk at *
  show (a.cps ++ b.cps).all _ = true
  rw [Array.all_append, h1, h2]
  rfl
theorem sok_of (s : String) : PyData.strOk (Str.ofString s) = true := by
  rw [Str.ofString_eq_toList]
  unfold PyData.strOk
  show (s.toList.map Char.toNat).toArray.all _ = true
  rw [← Array.all_toList, List.all_eq_true]
  intro x hx
  obtain ⟨c, _, rfl⟩ := List.mem_map.mp hx
  have := c.valid
  refine decide_eq_true ?_
  rcases this with h | h
  · show c.val.toNat < _
    have h' : c.val.toNat < 0xd800 := h
    omega
  · exact h.2
theorem sok_join {sep : Str} (hs : PyData.strOk sep = true) : ∀ {ts : List Str}, (∀ t ∈ ts, PyData.strOk t = true) → PyData.strOk (Str.join sep ts) = true
  | [], _ => (by decide +kernel : PyData.strOk Str.empty = true)
  | [x], h => h x (.head _)
  | x :: y :: r, h => by
    show PyData.strOk (x ++ sep ++ Str.join sep (y :: r)) = true
    exact sok_app (sok_app (h x (.head _)) hs) (sok_join hs fun t ht => h t (.tail _ ht))
theorem sok_from : ∀ {ts : List Str} (k : Nat) {acc : Str}, PyData.strOk acc = true → (∀ t ∈ ts, PyData.strOk t = true) → PyData.strOk (textFrom k acc ts) = true
  | [], _, _, h, _ => h
  | t :: ts, k, acc, h, ht => by
    show PyData.strOk (textFrom (k + 1) (acc ++ (if k > 0 then ", " else "" : String) ++ t) ts) = true
    exact sok_from (k + 1) (sok_app (sok_app h (sok_of _)) (ht t (.head _))) fun y hy => ht y (.tail _ hy)
theorem shown_ints : ∀ {l : List Int}, ∀ t ∈ PyData.shownAll (l.map PyData.int), PyData.strOk t = true
  | z :: l, t, h => by
    rcases List.mem_cons.mp (show t ∈ PyData.shown (.int z) :: PyData.shownAll (l.map PyData.int) from h) with rfl | h
    · exact sok_of _
    · exact shown_ints t h
theorem sok_tuple {ts : List Str} (h : ∀ t ∈ ts, PyData.strOk t = true) : PyData.strOk (tupleText ts) = true := by
  unfold tupleText
  exact sok_app (sok_app (sok_of _) (sok_join (sok_of _) h)) (sok_of _)
theorem sok_list {ts : List Str} (h : ∀ t ∈ ts, PyData.strOk t = true) : PyData.strOk (listText ts) = true := by
  unfold listText
  exact sok_app (sok_from 0 (sok_of _) h) (sok_of _)
theorem sok_tupI (l : List Int) : PyData.strOk (PyData.tuple (l.map PyData.int)).shown = true := sok_tuple shown_ints
theorem sok_lstI (l : List Int) : PyData.strOk (PyData.list (l.map PyData.int)).shown = true := sok_list shown_ints
end CM

local macro_rules | `(tactic| walk_at "pl") => `(tactic| first | exact CM.pl_rows | exact CM.pl_lamps | exact CM.pl_crews | exact CM.pl_work | exact CM.pl_every | exact CM.pl_early | exact CM.pl_sync | exact CM.pl_burst | exact CM.pl_gap | exact CM.pl_trips | exact CM.pl_drift | exact CM.pl_cloud | exact CM.pl_most | exact CM.pl_fixed | exact CM.pl_spare | kernel_rfl)
local macro_rules | `(tactic| walk_at "eps") => `(tactic| first | exact DL.ep_nil | (apply DL.ep_consS; (walk_at "ev"); walk_at "eps"))
local macro_rules | `(tactic| walk_at "side") => `(tactic| first | rfl | trivial | assumption | decide | omega | (simp only [List.length_nil, List.length_cons, List.length_map, List.length_append]; first | decide | omega))
local macro_rules | `(tactic| walk_at "mul") => `(tactic| first | exact Or.inl ⟨by decide, by decide⟩ | exact Or.inr ⟨by decide, by decide⟩ | exact Or.inl ⟨by omega, by omega⟩ | exact Or.inr ⟨by omega, by omega⟩)
local macro_rules | `(tactic| walk_at "dk") => `(tactic| first | assumption | (apply CM.DOk.rd; walk_at "dk"))
local macro_rules | `(tactic| walk_at "R") => `(tactic| first | apply_assumption | (constructor <;> first | rfl | assumption | exact List.cons_ne_nil _ _ | walk_at "dk" | walk_at "side"))
local macro_rules | `(tactic| walk_at "ea") => `(tactic| first
  | exact DL.ea_nil
  | (apply DL.ea_cons; (walk_at "ev"); walk_at "ea"))
local macro_rules | `(tactic| walk_at "ev") => `(tactic| first
  | exact DL.ev_int | exact DL.ev_bl | exact DL.ev_str | exact DL.ev_non | exact DL.ev_var rfl
  | (apply DL.ev_addI; (walk_at "ev"); walk_at "ev")
  | (apply DL.ev_subI; (walk_at "ev"); walk_at "ev")
  | (apply DL.ev_mulVI; (walk_at "ev"); (walk_at "ev"); walk_at "mul")
  | (apply DL.ev_mulVT; (walk_at "ev"); (walk_at "ev"); walk_at "side")
  | (apply DL.ev_mulVL; (walk_at "ev"); (walk_at "ev"); walk_at "side")
  | (apply DL.ev_divI; (walk_at "ev"); (walk_at "ev"); walk_at "side")
  | (apply DL.ev_modI; (walk_at "ev"); (walk_at "ev"); walk_at "side")
  | (apply DL.ev_ltI; (walk_at "ev"); walk_at "ev")
  | (apply DL.ev_leI; (walk_at "ev"); walk_at "ev")
  | (apply DL.ev_gtI; (walk_at "ev"); walk_at "ev")
  | (apply DL.ev_geI; (walk_at "ev"); walk_at "ev")
  | (apply DL.ev_eqI; (walk_at "ev"); walk_at "ev")
  | (apply DL.ev_neI; (walk_at "ev"); walk_at "ev")
  | (apply DL.ev_isN; (walk_at "ev"); exact DL.ev_non)
  | (apply DL.ev_isnN; (walk_at "ev"); exact DL.ev_non)
  | (apply DL.ev_negI; walk_at "ev")
  | (apply DL.ev_lenO; rfl)
  | (apply DL.ev_lenL; walk_at "ea")
  | (apply DL.ev_lenS; walk_at "ev")
  | (apply DL.ev_lenT; walk_at "ea")
  | (apply DL.ev_ixO; rfl; (walk_at "ev"); rfl; rfl)
  | (apply DL.ev_ixL; (walk_at "ev"); (walk_at "ev"); rfl)
  | (apply DL.ev_ixT; (walk_at "ev"); (walk_at "ev"); rfl)
  | (apply DL.ev_addL; (walk_at "ev"); (walk_at "ev"); walk_at "side")
  | (apply DL.ev_addT; (walk_at "ev"); (walk_at "ev"); walk_at "side")
  | (apply DL.ev_tup; (walk_at "ea"); walk_at "side")
  | (apply DL.ev_lst; (walk_at "ea"); walk_at "side")
  | (apply DL.ev_not; walk_at "ev")
  | (apply DL.ev_and; (walk_at "ev"); (intro _; walk_at "ev"))
  | (apply DL.ev_or; (walk_at "ev"); (intro _; walk_at "ev"))
  | (apply DL.ev_powI; (walk_at "ev"); (walk_at "ev"); walk_at "side")
  | (apply DL.ev_intI; walk_at "ev")
  | (apply DL.ev_absI; walk_at "ev")
  | (apply DL.ev_maxI; (walk_at "ev"); walk_at "ev")
  | (apply DL.ev_minI; (walk_at "ev"); walk_at "ev")
  | (apply DL.ev_slS; (walk_at "ev"); (walk_at "ep"); walk_at "ep")
  | (apply DL.ev_slL; (walk_at "ev"); (walk_at "ep"); walk_at "ep")
  | (apply DL.ev_slT; (walk_at "ev"); (walk_at "ep"); walk_at "ep")
  | (apply DL.ev_tupO; rfl)
  | (apply DL.ev_tupL; walk_at "ev")
  | (apply DL.ev_tupT; walk_at "ev")
  | (apply DL.ev_sortL; walk_at "ev")
  | (apply DL.ev_sortT; walk_at "ev")
  | (apply DL.ev_lstL; walk_at "ev")
  | (apply DL.ev_lstT; walk_at "ev")
  | (apply DL.ev_dgetS; (walk_at "ev"); walk_at "pl")
  | (apply DL.ev_call; (walk_at "ea"); walk_at "R")
  | (apply DL.ev_callM; (walk_at "ea"); (walk_at "ea"); rfl; rfl; decide; walk_at "R")
  | (apply DL.ev_callL; rfl; (walk_at "ea"); rfl; (intro _; walk_at "R")))
local macro_rules | `(tactic| walk_at "et") => `(tactic| first
  | (apply DL.et_test; walk_at "ev")
  | (apply DL.et_B; walk_at "ev")
  | (apply DL.et_not; walk_at "et")
  | (apply DL.et_andF; (apply DL.EvT.to); (walk_at "et"); walk_at "bool")
  | (apply DL.et_orT; (apply DL.EvT.to); (walk_at "et"); walk_at "bool")
  | (apply DL.et_and; (walk_at "et"); (intro _; walk_at "et"))
  | (apply DL.et_or; (walk_at "et"); (intro _; walk_at "et")))
local macro_rules | `(tactic| walk_at "bool") => `(tactic| first | rfl | assumption | (simp only [Bool.not_false, Bool.not_true, Bool.or_false, Bool.or_true, Bool.and_true, Bool.and_false, Bool.not_eq_true', Bool.not_eq_false', decide_eq_true_eq, decide_eq_false_iff_not, Bool.or_eq_true, Bool.or_eq_false_iff, Bool.and_eq_true, Bool.and_eq_false_iff] <;> first | assumption | omega) | (simp [*]; done))
local macro_rules | `(tactic| walk_at "st") => `(tactic| first
  | (apply DL.run_asg; walk_at "ev")
  | (apply DL.run_asgT; (walk_at "ev"); walk_at "tg")
  | (apply DL.run_drop; walk_at "ev")
  | (apply DL.run_parX; walk_at "ex")
  | (apply DL.run_parX3; walk_at "ex")
  | (apply DL.run_aug; rfl; walk_at "ev")
  | (apply DL.run_append; rfl; (walk_at "ev"); rfl; walk_at "side")
  | (apply DL.run_putDS; (walk_at "ev"); rfl; exact DL.le_size (by decide))
  | (apply DL.run_setL; (walk_at "ev"); rfl; (walk_at "ev"); rfl; rfl)
  | (apply DL.run_ret; walk_at "ev"))
local macro_rules | `(tactic| walk_at "ex") => `(tactic| first
  | exact DL.ex_nil
  | (apply DL.ex_res; (apply DL.eo_lst; (walk_at "ea"); walk_at "side"); walk_at "ex")
  | (apply DL.ex_dat; (walk_at "ev"); walk_at "ex"))
local macro_rules | `(tactic| walk_at "d") => `(tactic| try dsimp only [DL.S.set, List.set_cons_zero, List.set_cons_succ, List.map_cons, List.map_nil])
local macro_rules | `(tactic| walk_at "s") => `(tactic| (apply DL.run_seq; (walk_at "st"); walk_at "d"))
local macro_rules | `(tactic| walk_at "tb") => `(tactic| (apply DL.EvT.to; (walk_at "et"); walk_at "bool"))
local macro_rules | `(tactic| walk_at "no") => `(tactic| (apply DL.run_seq; (apply DL.run_no; (walk_at "tb"); exact DL.run_next); walk_at "d"))
local macro_rules | `(tactic| walk_at "ep") => `(tactic| first | exact DL.ep_none | (apply DL.ep_some; walk_at "ev"))
local macro_rules | `(tactic| walk_at "fo") => `(tactic| first | exact DL.Fo.nil | (apply DL.Fo.same; walk_at "fo") | (apply DL.Fo.unk; walk_at "fo") | (apply DL.Fo.int; (first | omega | (simp; done)); walk_at "fo"))
local macro_rules | `(tactic| walk_at "le") => `(tactic| (apply DL.run_le; (walk_at "st"); (walk_at "d"); apply DL.Fo.le; walk_at "fo"))
local macro_rules | `(tactic| walk_at "ret") => `(tactic| (apply DL.run_retle; (walk_at "ev"); apply DL.Fo.le; walk_at "fo"))
local macro_rules | `(tactic| walk_at "retT") => `(tactic| (apply DL.run_retle; (apply DL.Ev.to; (walk_at "ev"); walk_at "bool"); apply DL.Fo.le; walk_at "fo"))
local macro_rules | `(tactic| walk_at "lam") => `(tactic| (apply DL.ev_lamX; intro _; apply DL.er_call; (walk_at "ea"); walk_at "R"))
local macro_rules | `(tactic| walk_at "w") => `(tactic| (dsimp only [DL.S.wipe, DL.wipeL, DL.S.set, List.set_cons_zero, List.set_cons_succ]))
local macro_rules | `(tactic| walk_at "lv") => `(tactic| first | exact DL.Lv.nil | (apply DL.Lv.dat; walk_at "lv") | (apply DL.Lv.unk; walk_at "lv") | (apply DL.Lv.res (by first | rfl | assumption) DL.pin_lst; walk_at "lv"))
local macro_rules | `(tactic| walk_at "tg") => `(tactic| first | exact DL.tg_name | (apply DL.tg_tup; (walk_at "tgs"); rfl))
local macro_rules | `(tactic| walk_at "tgs") => `(tactic| first | exact DL.tg_nil | (apply DL.tg_cons; (walk_at "tg"); walk_at "tgs"))
local macro_rules | `(tactic| walk_at "nr") => `(tactic| first | exact DL.noRes_nil | (apply DL.noRes_u rfl; walk_at "nr") | (apply DL.noRes_d rfl; walk_at "nr"))
local macro_rules | `(tactic| walk_at "bk") => `(tactic| first | exact DL.Bk.nil | (apply DL.Bk.keep (by decide); walk_at "bk") | (apply DL.Bk.own (by decide); walk_at "bk") | (apply DL.Bk.unk; walk_at "bk"))
local macro_rules | `(tactic| walk_at "tv") => `(tactic| first | exact DL.tv_name (by decide) | (apply DL.tv_tup; (walk_at "tvs"); rfl))
local macro_rules | `(tactic| walk_at "tvs") => `(tactic| first | exact DL.tv_nil | (apply DL.tv_cons; (walk_at "tv"); walk_at "tvs"))
local macro_rules | `(tactic| walk_at "rs") => `(tactic| (apply DL.run_end; (apply DL.run_dropX; apply DL.er_call; (walk_at "ea"); walk_at "R"); rfl))
local macro_rules | `(tactic| walk_at "hw") => `(tactic| (intro y; (walk_at "w"); exact DL.Fo.le (by walk_at "fo")))
local macro_rules | `(tactic| walk_at "lcR") => `(tactic| (apply DL.ev_lcR; (walk_at "ev"); (walk_at "side"); (walk_at "nr"); (walk_at "hw"); (intro k hk; walk_at "w")))
local macro_rules | `(tactic| walk_at "lcI") => `(tactic| (apply DL.ev_lcI; (walk_at "ev"); rfl; (walk_at "side"); (walk_at "nr"); (walk_at "hw"); (intro x hx; walk_at "w")))

namespace CM
open PySem PySem.Spec PyProof.Rows L2 DL
variable {K : PySem.W.Frag} {C : Str → Addr} {T : List (Addr × Str)} {E : XK}
def isInt : D → Bool
  | .int _ => true
  | _ => false
def isIn (d : D) (lo hi : Int) : Bool := match d with
  | .int n => decide (lo ≤ n) && decide (n ≤ hi)
  | _ => false
inductive R_is_integer (K : PySem.W.Frag) (C : Str → Addr) (T : List (Addr × Str)) : FR
  | mk {v g} (h : noScr v = true) : R_is_integer K C T ⟨[.dat v], g⟩ (.rt (.bool (isInt v)) ⟨[.dat v], g⟩)
inductive R_is_in (K : PySem.W.Frag) (C : Str → Addr) (T : List (Addr × Str)) : FR
  | mk {v lo hi g} (h : noScr v = true) : R_is_in K C T ⟨[.dat v, .dat (.int lo), .dat (.int hi)], g⟩ (.rt (.bool (isIn v lo hi)) ⟨[.dat v, .dat (.int lo), .dat (.int hi)], g⟩)
inductive R_demand (K : PySem.W.Frag) (C : Str → Addr) (T : List (Addr × Str)) : FR
  | ok {b x g} (h : b = true) : R_demand K C T ⟨[.dat (.bool b), .dat x], g⟩ (.rt .none ⟨[.dat (.bool b), .dat x], g⟩)
  | no {b x g} (h : b = false) : R_demand K C T ⟨[.dat (.bool b), .dat x], g⟩ (.ex (C "BadArgument") "name" x ⟨[.dat (.bool b), .dat x], g⟩)
def t_is_integer (K : PySem.W.Frag) (C : Str → Addr) (T : List (Addr × Str)) (E : XK) : TS :=
  (tRet (tAndV (tCB (rIsi K) (tCons (tVar 0) (tCons (tC (.ty "int")) tNil))) (tNotV (tCB (rIsi K) (tCons (tVar 0) (tCons (tC (.ty "bool")) tNil))))))
def t_is_in (K : PySem.W.Frag) (C : Str → Addr) (T : List (Addr × Str)) (E : XK) : TS :=
  (tRet (tAndV (tCall (spF K (R_is_integer K C T)) [] E (tCons (tVar 0) tNil)) (tChain (rD2 K ordOk leD) (rD2 K ordOk leD) (tVar 1) (tVar 0) (tVar 2))))
def t_demand (K : PySem.W.Frag) (C : Str → Addr) (T : List (Addr × Str)) (E : XK) : TS :=
  (tIfS (tNot (tB (tVar 0))) (BX.tRaiseX (C "BadArgument") "name" (fun cls d _ H => E cls d H) (tCons (tVar 1) tNil)) tNext)
theorem rd_is_integer {v : D} {g} (hn : noScr v = true) : Run K E (t_is_integer K C T E) ⟨[.dat v], g⟩ (.rt (.bool (isInt v)) ⟨[.dat v], g⟩) := by
  refine run_ret (Ev.to (ev_and (ev_isi (ev_var rfl) kit_int hn _ rfl) fun _ => ev_not (ev_isi (ev_var rfl) kit_bool hn _ rfl)) ?_)
  cases v <;> rfl
theorem rd_is_in {v : D} {lo hi : Int} {g} (hn : noScr v = true) : Run K E (t_is_in K C T E) ⟨[.dat v, .dat (.int lo), .dat (.int hi)], g⟩ (.rt (.bool (isIn v lo hi)) ⟨[.dat v, .dat (.int lo), .dat (.int hi)], g⟩) := by
  refine run_ret ?_
  cases v with
  | int n => exact Ev.to (ev_and (a := true) (ev_call (ea_cons (ev_var rfl) ea_nil) (.mk hn)) fun _ => ev_chainI (ev_var rfl) (ev_var rfl) (ev_var rfl)) rfl
  | none => exact ev_andF (ev_call (ea_cons (ev_var rfl) ea_nil) (.mk hn))
  | bool b => exact ev_andF (ev_call (ea_cons (ev_var rfl) ea_nil) (.mk hn))
  | str b => exact ev_andF (ev_call (ea_cons (ev_var rfl) ea_nil) (.mk hn))
  | list b => exact ev_andF (ev_call (ea_cons (ev_var rfl) ea_nil) (.mk hn))
  | tuple b => exact ev_andF (ev_call (ea_cons (ev_var rfl) ea_nil) (.mk hn))
  | dict b => exact ev_andF (ev_call (ea_cons (ev_var rfl) ea_nil) (.mk hn))
theorem rd_demand_ok {b : Bool} {x : D} {g} (h : b = true) : Run K E (t_demand K C T E) ⟨[.dat (.bool b), .dat x], g⟩ (.nx ⟨[.dat (.bool b), .dat x], g⟩) := by
  subst h
  exact run_no (et_not (b := true) (et_B (ev_var rfl))) run_next
theorem rd_demand_no {b : Bool} {x : D} {g} (h : b = false) : Run K E (t_demand K C T E) ⟨[.dat (.bool b), .dat x], g⟩ (.ex (C "BadArgument") "name" x ⟨[.dat (.bool b), .dat x], g⟩) := by
  subst h
  exact run_yes (et_not (b := false) (et_B (ev_var rfl))) (run_raise (ea_cons (ev_var rfl) ea_nil) fun _ _ _ _ h => h)
inductive R__law_roll (K : PySem.W.Frag) (C : Str → Addr) (T : List (Addr × Str)) : FR
  | mk {v d t n g} (hd : DOk n d) (hn : n < 1000000000) (h0 : 0 < t) (h1 : t < 1073741824) : R__law_roll K C T ⟨[.res (lstR K (some v) (dl d)), .dat (.int t)], g⟩ (.rt (.int (rv d t)) ⟨[.res (lstR K (some v) (dl (CM.rd d t))), .dat (.int t)], g⟩)
inductive R__law_pick (K : PySem.W.Frag) (C : Str → Addr) (T : List (Addr × Str)) : FR
  | mk {v d xs n g} (hd : DOk n d) (hn : n < 1000000000) (h0 : xs ≠ []) (h1 : xs.length < 1073741824) : R__law_pick K C T ⟨[.res (lstR K (some v) (dl d)), .dat (.list xs)], g⟩ (.rt (pick d xs) ⟨[.res (lstR K (some v) (dl (CM.rd d xs.length))), .dat (.list xs)], g⟩)
def t__law_roll (K : PySem.W.Frag) (C : Str → Addr) (T : List (Addr × Str)) (E : XK) : TS :=
  (tSeq (tIfS (tTest (tOp (rD2 K ordOk gtD) (tOp (rD2 K ixOk ixD) (tVar 0) (tC (.int 0))) (tC (.int 0)))) (tSeq (tAsg (tOp (rD2 K modOk modD) (tCB (rDn K intOk intD) (tCons (tOp (rD2 K ixOk ixD) (tVar 0) (tC (.int 0))) tNil)) (tVar 1)) (gName 2))
    (tSeq (tAsg (tOp (rD2 K divOk divD) (tOp (rD2 K ixOk ixD) (tVar 0) (tC (.int 0))) (tVar 1)) (gSub (tVar 0) (tC (.int 0)) rSetL))
    (tRet (tVar 2)))) tNext)
    (tSeq (tAsg (tOp (rD2 K addOk addD) (tOp (rD2 K ixOk ixD) (tVar 0) (tC (.int 2))) (tC (.int 1))) (gSub (tVar 0) (tC (.int 2)) rSetL))
    (tSeq (tAsg (tOp (rD2 K modOk modD) (tCB (rDn K intOk intD) (tCons (tOp (rD2 K addOk addD) (tOp (rD2 K addOk addD) (tOp (rD2 K mulOkV mulD) (tOp (rD2 K ixOk ixD) (tVar 0) (tC (.int 1))) (tC (.int 52501))) (tOp (rD2 K mulOkV mulD) (tOp (rD2 K mulOkV mulD) (tOp (rD2 K ixOk ixD) (tVar 0) (tC (.int 2))) (tOp (rD2 K ixOk ixD) (tVar 0) (tC (.int 2)))) (tC (.int 1009)))) (tC (.int 77))) tNil)) (tC (.int 2147480009))) (gSub (tVar 0) (tC (.int 1)) rSetL))
    (tRet (tOp (rD2 K modOk modD) (tCB (rDn K intOk intD) (tCons (tOp (rD2 K divOk divD) (tOp (rD2 K ixOk ixD) (tVar 0) (tC (.int 1))) (tC (.int 211))) tNil)) (tVar 1))))))
def t__law_pick (K : PySem.W.Frag) (C : Str → Addr) (T : List (Addr × Str)) (E : XK) : TS :=
  (tRet (tOp (rD2 K ixOk ixD) (tVar 1) (tCall (spF K (R__law_roll K C T)) [] E (tCons (tVar 0) (tCons (tCB (rDn K lenOk lenD) (tCons (tVar 1) tNil)) tNil)))))
theorem rd__law_roll {ov : Option V} {d : Dice} {t n : Int} {g} (hd : DOk n d) (hn : n < 1000000000) (h0 : 0 < t) (h1 : t < 1073741824) :
    ∃ s, Run K E (t__law_roll K C T E) ⟨[.res (lstR K ov (dl d)), .dat (.int t), .unk], g⟩ (.rt (.int (rv d t)) s) ∧ s.s[0]? = some (.res (lstR K ov (dl (CM.rd d t)))) ∧ s.g = g := by
  have := hd.b0; have := hd.b1; have := hd.c0; have := hd.c1
  obtain ⟨a, b, c⟩ := d
  simp only [dl] at *
  by_cases ha : 0 < a
  · have e1 : CM.rd ⟨a, b, c⟩ t = ⟨a / t, b, c⟩ := by unfold CM.rd; rw [if_pos ha]
    have e2 : rv ⟨a, b, c⟩ t = a % t := by unfold rv; rw [if_pos ha]
    rw [e1, e2]
    apply Exists.intro
    refine ⟨?_, ?_, ?_⟩
    ·
      apply run_end
      · apply run_yes
        · walk_at "tb"
        walk_at "s"
        walk_at "s"
        walk_at "st"
      · rfl
    · rfl
    · rfl
  · have e1 : CM.rd ⟨a, b, c⟩ t = ⟨a, (b * 52501 + (c + 1) * (c + 1) * 1009 + 77) % 2147480009, c + 1⟩ := by unfold CM.rd; rw [if_neg ha]
    have e2 : rv ⟨a, b, c⟩ t = (b * 52501 + (c + 1) * (c + 1) * 1009 + 77) % 2147480009 / 211 % t := by unfold rv; rw [if_neg ha, e1]
    rw [e1, e2]
    apply Exists.intro
    refine ⟨?_, ?_, ?_⟩
    ·
      walk_at "no"
      walk_at "s"
      walk_at "s"
      walk_at "st"
    · rfl
    · rfl
theorem rd__law_pick {v : V} {d : Dice} {xs : List D} {n : Int} {g} (hd : DOk n d) (hn : n < 1000000000) (h0 : xs ≠ []) (h1 : xs.length < 1073741824) :
    Run K E (t__law_pick K C T E) ⟨[.res (lstR K (some v) (dl d)), .dat (.list xs)], g⟩ (.rt (pick d xs) ⟨[.res (lstR K (some v) (dl (CM.rd d xs.length))), .dat (.list xs)], g⟩) := by
  have hl : 0 < xs.length := List.length_pos_iff.mpr h0
  refine run_ret (ev_ixL (ev_var rfl) (ev_callL rfl (ea_cons (ev_lenL (ea_cons (ev_var rfl) ea_nil)) ea_nil) rfl fun v => .mk hd hn (by omega) (by omega)) ?_)
  exact pick_at h0
end CM

namespace CM
open PySem PySem.Spec PyProof.Rows L2 DL
variable {K : PySem.W.Frag} {C : Str → Addr} {T : List (Addr × Str)} {E : XK}
def own (ns : List Int) (spot : Int) : Int := if spot < ns.length then ns.getD spot.toNat 0 else 733 * spot + 29
def mix (m cell : Int) : Int := (m * 48271 + cell % 2147480009) % 2147480009
def cells (ns : List Int) (spot : Int) : List Int := ns.take 6 ++ [own ns spot]
def mixed (ns : List Int) (spot : Int) : Int := (cells ns spot).foldl mix (910003 + 7907 * spot)
def dice0 (ns : List Int) (spot : Int) : Dice := ⟨if own ns spot < 0 ∨ 10 ^ 16 ≤ own ns spot then (if own ns spot < 0 then - own ns spot else own ns spot) else 0, mixed ns spot, 0⟩
theorem mix_ok (m cell : Int) : 0 ≤ mix m cell ∧ mix m cell < 2147480009 := ⟨Int.emod_nonneg _ (by decide), Int.emod_lt_of_pos _ (by decide)⟩
theorem dice0_ok (ns : List Int) (spot : Int) : DOk 0 (dice0 ns spot) := by
  have h : 0 ≤ mixed ns spot ∧ mixed ns spot < 2147480009 := by
    unfold mixed cells
    rw [List.foldl_append]
    exact mix_ok _ _
  exact ⟨h.1, h.2, Int.le_refl _, Int.le_refl _⟩
inductive R__law_dice (K : PySem.W.Frag) (C : Str → Addr) (T : List (Addr × Str)) : FR
  | mk {ns spot g} (h : 0 ≤ spot) : R__law_dice K C T ⟨[.dat (scrD ns), .dat (.int spot)], g⟩ (.ro (lstR K none (dl (dice0 ns spot))) ⟨[.dat (scrD ns), .dat (.int spot)], g⟩)
def t__law_dice (K : PySem.W.Frag) (C : Str → Addr) (T : List (Addr × Str)) (E : XK) : TS :=
  (tSeq (tAsg (tIf (tTest (tOp (rD2 K ltXOk ltXD) (tVar 1) (tCB (rDn K lenOk lenD) (tCons (tVar 0) tNil)))) (tOp (rD2 K ixOk ixD) (tVar 0) (tVar 1)) (tOp (rD2 K addOk addD) (tOp (rD2 K mulOkV mulD) (tC (.int 733)) (tVar 1)) (tC (.int 29)))) (gName 2))
    (tSeq (tAsg (tOp (rD2 K addOk addD) (tC (.int 910003)) (tOp (rD2 K mulOkV mulD) (tC (.int 7907)) (tVar 1))) (gName 3))
    (tSeq (tFor (iSeq K (tOp (rD2 K addOk addD) (tSl (rSlU K) (tVar 0) tNoPart (tPart (tC (.int 6)))) (tLst (tCons (tVar 2) tNil)))) (gName 4) (tAsg (tOp (rD2 K modOk modD) (tCB (rDn K intOk intD) (tCons (tOp (rD2 K addOk addD) (tOp (rD2 K mulOkV mulD) (tVar 3) (tC (.int 48271))) (tOp (rD2 K modOk modD) (tCB (rDn K intOk intD) (tCons (tVar 4) tNil)) (tC (.int 2147480009)))) tNil)) (tC (.int 2147480009))) (gName 3)))
    (tRet (tLst (tCons (tIf (tOr (tTest (tOp (rD2 K ltXOk ltXD) (tVar 2) (tC (.int 0)))) (tTest (tOp (rD2 K ordOk geD) (tVar 2) (tOp (rD2 K powOk powD) (tC (.int 10)) (tC (.int 16)))))) (tCB (rDn K absOk absD) (tCons (tVar 2) tNil)) (tC (.int 0))) (tCons (tVar 3) (tCons (tC (.int 0)) tNil))))))))
theorem rd__law_dice {ns : List Int} {spot : Int} {g} (h : 0 ≤ spot) :
    ∃ s, Run K E (t__law_dice K C T E) ⟨[.dat (scrD ns), .dat (.int spot), .unk, .unk, .unk], g⟩ (.ro (lstR K none (dl (dice0 ns spot))) s) ∧ s.g = g := by
  apply Exists.intro
  apply And.intro
  · apply run_seq
    · apply run_asg (d := .int (own ns spot))
      refine ev_ifP (by walk_at "et") (fun hb => ?_) (fun hb => ?_)
      · refine ev_ixS (ev_var rfl) (ev_var rfl) ?_
        have hb : spot < ns.length := by simpa using hb
        have hi : spot.toNat < ns.length := by omega
        unfold own atI ixN
        rw [if_pos h, if_pos hb, if_pos hb]
        show ns[spot.toNat]? = _
        rw [List.getD_eq_getElem?_getD, List.getElem?_eq_getElem hi]
        rfl
      · have hb : ¬ spot < ns.length := by simpa using hb
        refine Ev.to (by walk_at "ev") ?_
        unfold own
        rw [if_neg hb]
    walk_at "d"
    walk_at "s"
    apply run_seq
    · have hw : ∀ s, s = (⟨[.dat (scrD ns), .dat (.int spot), .dat (.int (own ns spot)), .dat (.int (910003 + 7907 * spot)), .unk], g⟩ : S) → IterD K (iSeq K (tOp (rD2 K addOk addD) (tSl (rSlU K) (tVar 0) tNoPart (tPart (tC (.int 6)))) (tLst (tCons (tVar 2) tNil)))) s ((cells ns spot).map PyData.int) s := by
        intro s hs
        subst hs
        refine it_seq (d := .list ((cells ns spot).map PyData.int)) ?_ rfl
        refine Ev.to (ev_addL (ev_slS (ev_var rfl) ep_none (ep_some ev_int)) (ev_lst (ea_cons (ev_var rfl) ea_nil) (by walk_at "side")) ?_) ?_
        · rw [cut_to (by decide), List.length_take, List.length_map]
          have : (6 : Int).toNat = 6 := rfl
          rw [this, List.length_singleton, sizeLine_eq]
          omega
        · rw [cut_to (by decide), ← List.map_take]
          simp [cells]
      refine run_for (fun i => ⟨[.dat (scrD ns), .dat (.int spot), .dat (.int (own ns spot)), .dat (.int (((cells ns spot).take i).foldl mix (910003 + 7907 * spot))), .unk], g⟩) (hw _ rfl) (SLe.refl _) fun i d hd => ?_
      obtain ⟨c, hc, rfl⟩ := map_at hd
      refine ⟨_, tg_name, ?_⟩
      walk_at "d"
      rw [fold_at hc]
      walk_at "le"
    rw [List.length_map, List.take_length]
    apply run_retO
    apply eo_lst
    · refine ea_cons (d := .int (dice0 ns spot).a) (?_ : Ev K _ ⟨[.dat (scrD ns), .dat (.int spot), .dat (.int (own ns spot)), .dat (.int (mixed ns spot)), .unk], g⟩ _ ⟨[.dat (scrD ns), .dat (.int spot), .dat (.int (own ns spot)), .dat (.int (mixed ns spot)), .unk], g⟩) (by walk_at "ea")
      by_cases h1 : own ns spot < 0
      · refine Ev.to (ev_ifT (by walk_at "tb") (by walk_at "ev")) ?_
        unfold dice0; simp [h1]
      · by_cases h2 : 10 ^ 16 ≤ own ns spot
        · refine Ev.to (ev_ifT (EvT.to (by walk_at "et") ?_) (by walk_at "ev")) ?_
          · simp [h1]; exact h2
          · unfold dice0; simp only [h1, h2, if_true, if_false, or_true, or_false]
        · refine Ev.to (ev_ifF (EvT.to (by walk_at "et") ?_) (by walk_at "ev")) ?_
          · simp [h1]; omega
          · unfold dice0; simp only [h1, h2, if_true, if_false, or_true, or_false]
    · show 3 ≤ sizeLine; decide
  · rfl
end CM

namespace CM
open PySem PySem.Spec PyProof.Rows L2 DL
variable {K : PySem.W.Frag} {C : Str → Addr} {T : List (Addr × Str)} {E : XK}
inductive R__law_l_choices (K : PySem.W.Frag) (C : Str → Addr) (T : List (Addr × Str)) : FR
  | mk {v d n g} (hd : DOk n d) (hn : n < 100000) : R__law_l_choices K C T ⟨[.res (lstR K (some v) (dl d))], g⟩ (.rt (plD (chP d)) ⟨[.res (lstR K (some v) (dl (chD d 15)))], g⟩)
inductive R__law_l_wide (K : PySem.W.Frag) (C : Str → Addr) (T : List (Addr × Str)) : FR
  | mk {v d n g} (hd : DOk n d) (hn : n < 100000) : R__law_l_wide K C T ⟨[.res (lstR K (some v) (dl d))], g⟩ (.rt (plD (wdP d)) ⟨[.res (lstR K (some v) (dl (wdD d 19)))], g⟩)
def t__law_l_choices (K : PySem.W.Frag) (C : Str → Addr) (T : List (Addr × Str)) (E : XK) : TS :=
  (tSeq (tAsg (tDisp [((tC (.str "rows")), (tCall (spF K (R__law_pick K C T)) [] E (tCons (tVar 0) (tCons (tLst (tCons (tC (.int 1)) (tCons (tC (.int 2)) (tCons (tC (.int 2)) (tCons (tC (.int 3)) tNil))))) tNil)))), ((tC (.str "lamps")), (tOp (rD2 K addOk addD) (tC (.int 1)) (tCall (spF K (R__law_roll K C T)) [] E (tCons (tVar 0) (tCons (tC (.int 3)) tNil))))), ((tC (.str "crews")), (tOp (rD2 K addOk addD) (tC (.int 1)) (tCall (spF K (R__law_roll K C T)) [] E (tCons (tVar 0) (tCons (tC (.int 3)) tNil))))), ((tC (.str "work")), (tOp (rD2 K addOk addD) (tC (.int 1)) (tCall (spF K (R__law_roll K C T)) [] E (tCons (tVar 0) (tCons (tC (.int 5)) tNil)))))]) (gName 1))
    (tSeq (tAsg (tOp (rD2 K addOk addD) (tC (.int 1)) (tCall (spF K (R__law_roll K C T)) [] E (tCons (tVar 0) (tCons (tC (.int 5)) tNil)))) (gSub (tVar 1) (tC (.str "every")) rSetD))
    (tSeq (tAsg (tCall (spF K (R__law_roll K C T)) [] E (tCons (tVar 0) (tCons (tC (.int 14)) tNil))) (gSub (tVar 1) (tC (.str "early")) rSetD))
    (tSeq (tAsg (tOp (rD2 K addOk addD) (tC (.int 1)) (tCall (spF K (R__law_roll K C T)) [] E (tCons (tVar 0) (tCons (tC (.int 3)) tNil)))) (gSub (tVar 1) (tC (.str "sync")) rSetD))
    (tSeq (tAsg (tOp (rD2 K addOk addD) (tC (.int 1)) (tCall (spF K (R__law_roll K C T)) [] E (tCons (tVar 0) (tCons (tC (.int 4)) tNil)))) (gSub (tVar 1) (tC (.str "burst")) rSetD))
    (tSeq (tAsg (tOp (rD2 K addOk addD) (tC (.int 1)) (tCall (spF K (R__law_roll K C T)) [] E (tCons (tVar 0) (tCons (tC (.int 5)) tNil)))) (gSub (tVar 1) (tC (.str "gap")) rSetD))
    (tSeq (tAsg (tCall (spF K (R__law_pick K C T)) [] E (tCons (tVar 0) (tCons (tLst (tCons (tC (.int 0)) (tCons (tC (.int 0)) (tCons (tC (.int 1)) (tCons (tC (.int 1)) (tCons (tC (.int 2)) (tCons (tC (.int 3)) tNil))))))) tNil))) (gSub (tVar 1) (tC (.str "trips")) rSetD))
    (tSeq (tAsg (tCall (spF K (R__law_roll K C T)) [] E (tCons (tVar 0) (tCons (tC (.int 3)) tNil))) (gSub (tVar 1) (tC (.str "drift")) rSetD))
    (tSeq (tAsg (tCall (spF K (R__law_roll K C T)) [] E (tCons (tVar 0) (tCons (tC (.int 6)) tNil))) (gSub (tVar 1) (tC (.str "cloud")) rSetD))
    (tSeq (tAsg (tCall (spF K (R__law_roll K C T)) [] E (tCons (tVar 0) (tCons (tC (.int 14)) tNil))) (gSub (tVar 1) (tC (.str "most")) rSetD))
    (tSeq (tAsg (tCall (spF K (R__law_roll K C T)) [] E (tCons (tVar 0) (tCons (tC (.int 22)) tNil))) (gSub (tVar 1) (tC (.str "fixed")) rSetD))
    (tSeq (tAsg (tCall (spF K (R__law_roll K C T)) [] E (tCons (tVar 0) (tCons (tC (.int 30)) tNil))) (gSub (tVar 1) (tC (.str "spare")) rSetD))
    (tRet (tVar 1))))))))))))))
def t__law_l_wide (K : PySem.W.Frag) (C : Str → Addr) (T : List (Addr × Str)) (E : XK) : TS :=
  (tSeq (tAsg (tDisp [((tC (.str "rows")), (tOp (rD2 K addOk addD) (tC (.int 1)) (tCall (spF K (R__law_roll K C T)) [] E (tCons (tVar 0) (tCons (tC (.int 3)) tNil))))), ((tC (.str "lamps")), (tOp (rD2 K addOk addD) (tC (.int 1)) (tCall (spF K (R__law_roll K C T)) [] E (tCons (tVar 0) (tCons (tC (.int 4)) tNil))))), ((tC (.str "crews")), (tOp (rD2 K addOk addD) (tC (.int 1)) (tCall (spF K (R__law_roll K C T)) [] E (tCons (tVar 0) (tCons (tC (.int 4)) tNil))))), ((tC (.str "work")), (tOp (rD2 K addOk addD) (tC (.int 1)) (tCall (spF K (R__law_roll K C T)) [] E (tCons (tVar 0) (tCons (tC (.int 12)) tNil)))))]) (gName 1))
    (tSeq (tAsg (tOp (rD2 K addOk addD) (tC (.int 1)) (tCall (spF K (R__law_roll K C T)) [] E (tCons (tVar 0) (tCons (tC (.int 12)) tNil)))) (gSub (tVar 1) (tC (.str "every")) rSetD))
    (tSeq (tAsg (tCall (spF K (R__law_roll K C T)) [] E (tCons (tVar 0) (tCons (tC (.int 61)) tNil))) (gSub (tVar 1) (tC (.str "early")) rSetD))
    (tSeq (tAsg (tOp (rD2 K addOk addD) (tC (.int 1)) (tCall (spF K (R__law_roll K C T)) [] E (tCons (tVar 0) (tCons (tC (.int 10)) tNil)))) (gSub (tVar 1) (tC (.str "sync")) rSetD))
    (tSeq (tAsg (tOp (rD2 K addOk addD) (tC (.int 1)) (tCall (spF K (R__law_roll K C T)) [] E (tCons (tVar 0) (tCons (tC (.int 6)) tNil)))) (gSub (tVar 1) (tC (.str "burst")) rSetD))
    (tSeq (tAsg (tOp (rD2 K addOk addD) (tC (.int 1)) (tCall (spF K (R__law_roll K C T)) [] E (tCons (tVar 0) (tCons (tC (.int 12)) tNil)))) (gSub (tVar 1) (tC (.str "gap")) rSetD))
    (tSeq (tAsg (tCall (spF K (R__law_roll K C T)) [] E (tCons (tVar 0) (tCons (tC (.int 4)) tNil))) (gSub (tVar 1) (tC (.str "trips")) rSetD))
    (tSeq (tAsg (tCall (spF K (R__law_roll K C T)) [] E (tCons (tVar 0) (tCons (tC (.int 6)) tNil))) (gSub (tVar 1) (tC (.str "drift")) rSetD))
    (tSeq (tAsg (tCall (spF K (R__law_roll K C T)) [] E (tCons (tVar 0) (tCons (tC (.int 31)) tNil))) (gSub (tVar 1) (tC (.str "cloud")) rSetD))
    (tSeq (tAsg (tCall (spF K (R__law_pick K C T)) [] E (tCons (tVar 0) (tCons (tLst (tCons (tCall (spF K (R__law_roll K C T)) [] E (tCons (tVar 0) (tCons (tC (.int 101)) tNil))) (tCons (tCall (spF K (R__law_roll K C T)) [] E (tCons (tVar 0) (tCons (tC (.int 30)) tNil))) tNil))) tNil))) (gSub (tVar 1) (tC (.str "most")) rSetD))
    (tSeq (tAsg (tCall (spF K (R__law_pick K C T)) [] E (tCons (tVar 0) (tCons (tLst (tCons (tCall (spF K (R__law_roll K C T)) [] E (tCons (tVar 0) (tCons (tC (.int 101)) tNil))) (tCons (tCall (spF K (R__law_roll K C T)) [] E (tCons (tVar 0) (tCons (tC (.int 40)) tNil))) tNil))) tNil))) (gSub (tVar 1) (tC (.str "fixed")) rSetD))
    (tSeq (tAsg (tCall (spF K (R__law_roll K C T)) [] E (tCons (tVar 0) (tCons (tC (.int 201)) tNil))) (gSub (tVar 1) (tC (.str "spare")) rSetD))
    (tRet (tVar 1))))))))))))))
theorem put1 {ds : List (D × D)} {k : Str} {d : D} (h : dlook ds (.inr k) = none) : dput ds (.inr k) d = ds ++ [(.str k, d)] := by
  unfold dput
  rw [h]
  rfl
theorem ev_pickD {d : Dice} {n : Int} {s : S} {xs : List D} {ta : TE} {j : Nat} {ov ov' : Option V} {d0 : Dice} {s1 : S} {x : D} (hi : s.s[j]? = some (.res (lstR K ov (dl d0)))) (ha : Ev K ta s (.list xs) s1) (hi1 : s1.s[j]? = some (.res (lstR K ov' (dl d)))) (hd : DOk n d) (hn : n < 1000000000) (h0 : xs ≠ []) (h1 : xs.length < 1073741824) (hx : pick d xs = x) :
    Ev K (tCall (spF K (R__law_pick K C T)) [] E (tCons (tVar j) (tCons ta tNil))) s x (s1.set j (.res (lstR K ov' (dl (CM.rd d xs.length))))) :=
  (ev_callL hi (ea_cons ha ea_nil) hi1 fun v => .mk hd hn h0 h1).to hx
theorem ev_rollD {d : Dice} {n : Int} {s : S} {t : Int} {ta : TE} {j : Nat} {ov ov' : Option V} {d0 : Dice} {s1 : S} {x : Int} (hi : s.s[j]? = some (.res (lstR K ov (dl d0)))) (ha : Ev K ta s (.int t) s1) (hi1 : s1.s[j]? = some (.res (lstR K ov' (dl d)))) (hd : DOk n d) (hn : n < 1000000000) (h0 : 0 < t) (h1 : t < 1073741824) (hx : rv d t = x) :
    Ev K (tCall (spF K (R__law_roll K C T)) [] E (tCons (tVar j) (tCons ta tNil))) s (.int x) (s1.set j (.res (lstR K ov' (dl (CM.rd d t))))) :=
  (ev_callL hi (ea_cons ha ea_nil) hi1 fun v => .mk hd hn h0 h1).to (by rw [hx])
theorem rd__law_l_choices {v : V} {d : Dice} {n : Int} {g} (hd : DOk n d) (hn : n < 100000) :
    Run K E (t__law_l_choices K C T E) ⟨[.res (lstR K (some v) (dl d)), .unk], g⟩ (.rt (plD (chP d)) ⟨[.res (lstR K (some v) (dl (chD d 15))), .unk], g⟩) := by
  have ok := fun k => chD_ok hd k
  have st : ∀ (k : Nat) (t : Int) (ds : List (D × D)) {x : Int}, k ≤ 15 → 0 < t → t < 1000 → CM.rd (chD d k) t = chD d (k + 1) → rv (chD d k) t = x →
      Ev K (tCall (spF K (R__law_roll K C T)) [] E (tCons (tVar 0) (tCons (tC (.int t)) tNil))) ⟨[.res (lstR K (some v) (dl (chD d k))), .res (dctR K none ds)], g⟩ (.int x) ⟨[.res (lstR K (some v) (dl (chD d (k + 1)))), .res (dctR K none ds)], g⟩ := by
    intro k t ds x hk h0 h1 e ex
    have := ev_rollD (K := K) (C := C) (T := T) (E := E) (j := 0) (s := ⟨[.res (lstR K (some v) (dl (chD d k))), .res (dctR K none ds)], g⟩) rfl ev_int rfl (ok k) (by omega) h0 (by omega) ex
    rw [e] at this
    exact this
  have st0 : ∀ (k : Nat) (t : Int) {x : Int}, k ≤ 15 → 0 < t → t < 1000 → CM.rd (chD d k) t = chD d (k + 1) → rv (chD d k) t = x →
      Ev K (tCall (spF K (R__law_roll K C T)) [] E (tCons (tVar 0) (tCons (tC (.int t)) tNil))) ⟨[.res (lstR K (some v) (dl (chD d k))), .unk], g⟩ (.int x) ⟨[.res (lstR K (some v) (dl (chD d (k + 1)))), .unk], g⟩ := by
    intro k t x hk h0 h1 e ex
    have := ev_rollD (K := K) (C := C) (T := T) (E := E) (j := 0) (s := ⟨[.res (lstR K (some v) (dl (chD d k))), .unk], g⟩) rfl ev_int rfl (ok k) (by omega) h0 (by omega) ex
    rw [e] at this
    exact this
  have l0 := ok 0
  apply run_seq
  · apply run_asgO
    apply eo_disp
    · apply ep_consS
      · exact ev_pickD (d0 := d) (d := d) rfl (by walk_at "ev") rfl hd (by omega) (List.cons_ne_nil _ _) (by decide) pick4.1
      walk_at "d"
      apply ep_consS
      · exact ev_addI ev_int (st0 1 3 (by decide) (by decide) (by decide) rfl rfl)
      apply ep_consS
      · exact ev_addI ev_int (st0 2 3 (by decide) (by decide) (by decide) rfl rfl)
      apply ep_consS
      · exact ev_addI ev_int (st0 3 5 (by decide) (by decide) (by decide) rfl rfl)
      exact ep_nil
    · show 4 ≤ 15; decide
  walk_at "d"
  have e0 : dmerge [] [(.inr "rows", .int (ofInt (pick d [.int 1, .int 2, .int 2, .int 3]))), (.inr "lamps", .int (1 + rv (chD d 1) 3)), (.inr "crews", .int (1 + rv (chD d 2) 3)), (.inr "work", .int (1 + rv (chD d 3) 5))] = (plKV (chP d)).take 4 := by kernel_rfl
  rw [e0]
  have put : ∀ (k : Nat) (nm : Str) (te : TE) (x : Int) (D1 D2 : Dice), k < 15 → dput ((plKV (chP d)).take k) (.inr nm) (.int x) = (plKV (chP d)).take (k + 1) → (∀ ds, Ev K te ⟨[.res (lstR K (some v) (dl D1)), .res (dctR K none ds)], g⟩ (.int x) ⟨[.res (lstR K (some v) (dl D2)), .res (dctR K none ds)], g⟩) →
      Run K E (tAsg te (gSub (tVar 1) (tC (.str nm)) rSetD)) ⟨[.res (lstR K (some v) (dl D1)), .res (dctR K none ((plKV (chP d)).take k))], g⟩ (.nx ⟨[.res (lstR K (some v) (dl D2)), .res (dctR K none ((plKV (chP d)).take (k + 1)))], g⟩) := by
    intro k nm te x D1 D2 hk e h
    have := run_putDS (K := K) (E := E) (k := nm) (i := 1) (h ((plKV (chP d)).take k)) rfl (by rw [List.length_take]; have : 20 ≤ sizeLine := le_size (by decide); omega)
    rw [e] at this
    exact this
  have hok9 := ok 9
  have e9 : CM.rd (chD d 9) ([PyData.int 0, .int 0, .int 1, .int 1, .int 2, .int 3] : List D).length = chD d 10 := rfl
  have l6 : ([PyData.int 0, .int 0, .int 1, .int 1, .int 2, .int 3] : List D).length < 1073741824 := by show 6 < 1073741824; omega
  have x9 : pick (chD d 9) [.int 0, .int 0, .int 1, .int 1, .int 2, .int 3] = .int (chP d).trips := pick6.1
  have p9 : ∀ ds, Ev K (tCall (spF K (R__law_pick K C T)) [] E (tCons (tVar 0) (tCons (tLst (tCons (tC (.int 0)) (tCons (tC (.int 0)) (tCons (tC (.int 1)) (tCons (tC (.int 1)) (tCons (tC (.int 2)) (tCons (tC (.int 3)) tNil))))))) tNil))) ⟨[.res (lstR K (some v) (dl (chD d 9))), .res (dctR K none ds)], g⟩ (.int (chP d).trips) ⟨[.res (lstR K (some v) (dl (chD d 10))), .res (dctR K none ds)], g⟩ := by
    intro ds
    have key := ev_pickD (K := K) (C := C) (T := T) (E := E) (s := ⟨[.res (lstR K (some v) (dl (chD d 9))), .res (dctR K none ds)], g⟩) (j := 0) rfl (ev_lst (ea_cons ev_int (ea_cons ev_int (ea_cons ev_int (ea_cons ev_int (ea_cons ev_int (ea_cons ev_int ea_nil)))))) (le_size (by simp))) rfl hok9 (by omega) (List.cons_ne_nil _ _) l6 x9
    rw [e9] at key
    exact key
  apply run_seq
  · refine put 4 _ _ (chP d).every (chD d 4) (chD d 5) (by decide) ?_ fun ds => ?_
    rotate_left
    · exact ev_addI ev_int (st 4 5 ds (by decide) (by decide) (by decide) rfl rfl)
    · kernel_rfl
  apply run_seq
  · refine put 5 _ _ (chP d).early (chD d 5) (chD d 6) (by decide) ?_ fun ds => ?_
    rotate_left
    · exact st 5 14 ds (by decide) (by decide) (by decide) rfl rfl
    · kernel_rfl
  apply run_seq
  · refine put 6 _ _ (chP d).sync (chD d 6) (chD d 7) (by decide) ?_ fun ds => ?_
    rotate_left
    · exact ev_addI ev_int (st 6 3 ds (by decide) (by decide) (by decide) rfl rfl)
    · kernel_rfl
  apply run_seq
  · refine put 7 _ _ (chP d).burst (chD d 7) (chD d 8) (by decide) ?_ fun ds => ?_
    rotate_left
    · exact ev_addI ev_int (st 7 4 ds (by decide) (by decide) (by decide) rfl rfl)
    · kernel_rfl
  apply run_seq
  · refine put 8 _ _ (chP d).gap (chD d 8) (chD d 9) (by decide) ?_ fun ds => ?_
    rotate_left
    · exact ev_addI ev_int (st 8 5 ds (by decide) (by decide) (by decide) rfl rfl)
    · kernel_rfl
  apply run_seq
  · refine put 9 _ _ (chP d).trips (chD d 9) (chD d 10) (by decide) ?_ fun ds => ?_
    rotate_left
    · exact p9 ds
    · kernel_rfl
  apply run_seq
  · refine put 10 _ _ (chP d).drift (chD d 10) (chD d 11) (by decide) ?_ fun ds => ?_
    rotate_left
    · exact st 10 3 ds (by decide) (by decide) (by decide) rfl rfl
    · kernel_rfl
  apply run_seq
  · refine put 11 _ _ (chP d).cloud (chD d 11) (chD d 12) (by decide) ?_ fun ds => ?_
    rotate_left
    · exact st 11 6 ds (by decide) (by decide) (by decide) rfl rfl
    · kernel_rfl
  apply run_seq
  · refine put 12 _ _ (chP d).most (chD d 12) (chD d 13) (by decide) ?_ fun ds => ?_
    rotate_left
    · exact st 12 14 ds (by decide) (by decide) (by decide) rfl rfl
    · kernel_rfl
  apply run_seq
  · refine put 13 _ _ (chP d).fixed (chD d 13) (chD d 14) (by decide) ?_ fun ds => ?_
    rotate_left
    · exact st 13 22 ds (by decide) (by decide) (by decide) rfl rfl
    · kernel_rfl
  apply run_seq
  · refine put 14 _ _ (chP d).spare (chD d 14) (chD d 15) (by decide) ?_ fun ds => ?_
    rotate_left
    · exact st 14 30 ds (by decide) (by decide) (by decide) rfl rfl
    · kernel_rfl
  refine run_frzD (K := K) (i := 1) (ov := none) (ds := plKV (chP d)) rfl ?_
  walk_at "d"
  refine run_retle (ev_var rfl) ?_
  exact Fo.le (by walk_at "fo")
theorem rd__law_l_wide {v : V} {d : Dice} {n : Int} {g} (hd : DOk n d) (hn : n < 100000) :
    Run K E (t__law_l_wide K C T E) ⟨[.res (lstR K (some v) (dl d)), .unk], g⟩ (.rt (plD (wdP d)) ⟨[.res (lstR K (some v) (dl (wdD d 19))), .unk], g⟩) := by
  have ok : ∀ k : Nat, DOk (n + k) (wdD d k) := fun k => wdD_ok hd k
  have st : ∀ (k : Nat) (t : Int) (y : Sl) {x : Int}, k ≤ 19 → 0 < t → t < 1000 → CM.rd (wdD d k) t = wdD d (k + 1) → rv (wdD d k) t = x →
      Ev K (tCall (spF K (R__law_roll K C T)) [] E (tCons (tVar 0) (tCons (tC (.int t)) tNil))) ⟨[.res (lstR K (some v) (dl (wdD d k))), y], g⟩ (.int x) ⟨[.res (lstR K (some v) (dl (wdD d (k + 1)))), y], g⟩ := by
    intro k t y x hk h0 h1 e ex
    have := ev_rollD (K := K) (C := C) (T := T) (E := E) (j := 0) (s := ⟨[.res (lstR K (some v) (dl (wdD d k))), y], g⟩) rfl ev_int rfl (ok k) (by omega) h0 (by omega) ex
    rw [e] at this
    exact this
  apply run_seq
  · apply run_asgO
    apply eo_disp
    · apply ep_consS
      · exact ev_addI ev_int (st 0 3 .unk (by decide) (by decide) (by decide) rfl rfl)
      apply ep_consS
      · exact ev_addI ev_int (st 1 4 .unk (by decide) (by decide) (by decide) rfl rfl)
      apply ep_consS
      · exact ev_addI ev_int (st 2 4 .unk (by decide) (by decide) (by decide) rfl rfl)
      apply ep_consS
      · exact ev_addI ev_int (st 3 12 .unk (by decide) (by decide) (by decide) rfl rfl)
      exact ep_nil
    · show 4 ≤ 15; decide
  walk_at "d"
  have e0 : dmerge [] [(.inr "rows", .int (1 + rv (wdD d 0) 3)), (.inr "lamps", .int (1 + rv (wdD d 1) 4)), (.inr "crews", .int (1 + rv (wdD d 2) 4)), (.inr "work", .int (1 + rv (wdD d 3) 12))] = (plKV (wdP d)).take 4 := by kernel_rfl
  rw [e0]
  have put : ∀ (k : Nat) (nm : Str) (te : TE) (x : Int) (D1 D2 : Dice), k < 15 → dput ((plKV (wdP d)).take k) (.inr nm) (.int x) = (plKV (wdP d)).take (k + 1) → (∀ ds, Ev K te ⟨[.res (lstR K (some v) (dl D1)), .res (dctR K none ds)], g⟩ (.int x) ⟨[.res (lstR K (some v) (dl D2)), .res (dctR K none ds)], g⟩) →
      Run K E (tAsg te (gSub (tVar 1) (tC (.str nm)) rSetD)) ⟨[.res (lstR K (some v) (dl D1)), .res (dctR K none ((plKV (wdP d)).take k))], g⟩ (.nx ⟨[.res (lstR K (some v) (dl D2)), .res (dctR K none ((plKV (wdP d)).take (k + 1)))], g⟩) := by
    intro k nm te x D1 D2 hk e h
    have := run_putDS (K := K) (E := E) (k := nm) (i := 1) (h ((plKV (wdP d)).take k)) rfl (by rw [List.length_take]; have : 20 ≤ sizeLine := le_size (by decide); omega)
    rw [e] at this
    exact this
  have r := fun (d : Dice) (t : Int) (h : 0 < t) => And.intro (rv0 (d := d) h) (rv1 (d := d) h)
  have b12 := r (wdD d 12) 101 (by decide); have b13 := r (wdD d 13) 30 (by decide); have b15 := r (wdD d 15) 101 (by decide); have b16 := r (wdD d 16) 40 (by decide)
  have q12 : 0 ≤ rv (wdD d 12) 101 ∧ rv (wdD d 12) 101 ≤ 100 := by omega
  have q13 : 0 ≤ rv (wdD d 13) 30 ∧ rv (wdD d 13) 30 ≤ 100 := by omega
  have q15 : 0 ≤ rv (wdD d 15) 101 ∧ rv (wdD d 15) 101 ≤ 100 := by omega
  have q16 : 0 ≤ rv (wdD d 16) 40 ∧ rv (wdD d 16) 40 ≤ 100 := by omega
  have two : ∀ (k : Nat) (t u m x : Int), k ≤ 16 → 0 < t → t < 1000 → 0 < u → u < 1000 → CM.rd (wdD d k) t = wdD d (k + 1) → CM.rd (wdD d (k + 1)) u = wdD d (k + 2) → CM.rd (wdD d (k + 2)) (2 : Nat) = wdD d (k + 3) → pick (wdD d (k + 2)) [.int (rv (wdD d k) t), .int (rv (wdD d (k + 1)) u)] = .int x →
      ∀ ds, Ev K (tCall (spF K (R__law_pick K C T)) [] E (tCons (tVar 0) (tCons (tLst (tCons (tCall (spF K (R__law_roll K C T)) [] E (tCons (tVar 0) (tCons (tC (.int t)) tNil))) (tCons (tCall (spF K (R__law_roll K C T)) [] E (tCons (tVar 0) (tCons (tC (.int u)) tNil))) tNil))) tNil))) ⟨[.res (lstR K (some v) (dl (wdD d k))), .res (dctR K none ds)], g⟩ (.int x) ⟨[.res (lstR K (some v) (dl (wdD d (k + 3)))), .res (dctR K none ds)], g⟩ := by
    intro k t u m x hk t0 t1 u0 u1 e1 e2 e3 ex ds
    have l2 : ([PyData.int (rv (wdD d k) t), .int (rv (wdD d (k + 1)) u)] : List D).length < 1073741824 := by show 2 < 1073741824; omega
    have key := ev_pickD (K := K) (C := C) (T := T) (E := E) (s := ⟨[.res (lstR K (some v) (dl (wdD d k))), .res (dctR K none ds)], g⟩) (j := 0) rfl (ev_lst (ea_cons (st k t (.res (dctR K none ds)) (by omega) t0 t1 e1 rfl) (ea_cons (st (k + 1) u (.res (dctR K none ds)) (by omega) u0 u1 e2 rfl) ea_nil)) (le_size (by simp))) rfl (ok (k + 2)) (by omega) (List.cons_ne_nil _ _) l2 ex
    rw [show CM.rd (wdD d (k + 2)) ([PyData.int (rv (wdD d k) t), .int (rv (wdD d (k + 1)) u)] : List D).length = wdD d (k + 3) from e3] at key
    exact key

  apply run_seq
  · refine put 4 _ _ (wdP d).every (wdD d 4) (wdD d 5) (by decide) ?_ fun ds => ?_
    rotate_left
    · exact ev_addI ev_int (st 4 12 (.res (dctR K none ds)) (by decide) (by decide) (by decide) rfl rfl)
    · kernel_rfl
  apply run_seq
  · refine put 5 _ _ (wdP d).early (wdD d 5) (wdD d 6) (by decide) ?_ fun ds => ?_
    rotate_left
    · exact st 5 61 (.res (dctR K none ds)) (by decide) (by decide) (by decide) rfl rfl
    · kernel_rfl
  apply run_seq
  · refine put 6 _ _ (wdP d).sync (wdD d 6) (wdD d 7) (by decide) ?_ fun ds => ?_
    rotate_left
    · exact ev_addI ev_int (st 6 10 (.res (dctR K none ds)) (by decide) (by decide) (by decide) rfl rfl)
    · kernel_rfl
  apply run_seq
  · refine put 7 _ _ (wdP d).burst (wdD d 7) (wdD d 8) (by decide) ?_ fun ds => ?_
    rotate_left
    · exact ev_addI ev_int (st 7 6 (.res (dctR K none ds)) (by decide) (by decide) (by decide) rfl rfl)
    · kernel_rfl
  apply run_seq
  · refine put 8 _ _ (wdP d).gap (wdD d 8) (wdD d 9) (by decide) ?_ fun ds => ?_
    rotate_left
    · exact ev_addI ev_int (st 8 12 (.res (dctR K none ds)) (by decide) (by decide) (by decide) rfl rfl)
    · kernel_rfl
  apply run_seq
  · refine put 9 _ _ (wdP d).trips (wdD d 9) (wdD d 10) (by decide) ?_ fun ds => ?_
    rotate_left
    · exact st 9 4 (.res (dctR K none ds)) (by decide) (by decide) (by decide) rfl rfl
    · kernel_rfl
  apply run_seq
  · refine put 10 _ _ (wdP d).drift (wdD d 10) (wdD d 11) (by decide) ?_ fun ds => ?_
    rotate_left
    · exact st 10 6 (.res (dctR K none ds)) (by decide) (by decide) (by decide) rfl rfl
    · kernel_rfl
  apply run_seq
  · refine put 11 _ _ (wdP d).cloud (wdD d 11) (wdD d 12) (by decide) ?_ fun ds => ?_
    rotate_left
    · exact st 11 31 (.res (dctR K none ds)) (by decide) (by decide) (by decide) rfl rfl
    · kernel_rfl
  apply run_seq
  · refine put 12 _ _ (wdP d).most (wdD d 12) (wdD d 15) (by decide) ?_ fun ds => ?_
    rotate_left
    · exact two 12 101 30 100 _ (by decide) (by decide) (by decide) (by decide) (by decide) rfl rfl rfl (pick2 (m := 100) q12 q13).1 ds
    · kernel_rfl
  apply run_seq
  · refine put 13 _ _ (wdP d).fixed (wdD d 15) (wdD d 18) (by decide) ?_ fun ds => ?_
    rotate_left
    · exact two 15 101 40 100 _ (by decide) (by decide) (by decide) (by decide) (by decide) rfl rfl rfl (pick2 (m := 100) q15 q16).1 ds
    · kernel_rfl
  apply run_seq
  · refine put 14 _ _ (wdP d).spare (wdD d 18) (wdD d 19) (by decide) ?_ fun ds => ?_
    rotate_left
    · exact st 18 201 (.res (dctR K none ds)) (by decide) (by decide) (by decide) rfl rfl
    · kernel_rfl
  refine run_frzD (K := K) (i := 1) (ov := none) (ds := plKV (wdP d)) rfl ?_
  walk_at "d"
  refine run_retle (ev_var rfl) ?_
  exact Fo.le (by walk_at "fo")
end CM

local macro_rules | `(tactic| walk_at "pf") => `(tactic| first | exact CM.pf_rows | exact CM.pf_lamps | exact CM.pf_crews | exact CM.pf_work | exact CM.pf_every | exact CM.pf_early | exact CM.pf_sync | exact CM.pf_burst | exact CM.pf_gap | exact CM.pf_trips | exact CM.pf_drift | exact CM.pf_cloud | exact CM.pf_most | exact CM.pf_fixed | exact CM.pf_spare | exact CM.pf_found)
local macro_rules | `(tactic| walk_at "ok") => `(tactic| first | (decide +kernel) | kernel_rfl)
local macro_rules | `(tactic| walk_at "ev") => `(tactic| first
  | (apply CM.ev_fldP; (walk_at "ev"); assumption; (decide +kernel); walk_at "pf")
  | (apply CM.ev_eqSS; (walk_at "ev"); (walk_at "ev"); (walk_at "ok"); walk_at "ok")
  | (apply CM.ev_neSS; (walk_at "ev"); (walk_at "ev"); (walk_at "ok"); walk_at "ok"))
local macro_rules | `(tactic| walk_at "bool") => `(tactic| kernel_rfl)
local macro_rules | `(tactic| walk_at "lv") => `(tactic| first | exact DL.Lv.nil | (apply DL.Lv.dat; walk_at "lv") | (apply DL.Lv.unk; walk_at "lv") | (apply DL.Lv.res (by first | rfl | assumption) DL.pin_lst; walk_at "lv") | (apply DL.Lv.res (by first | rfl | assumption) DL.pin_ins; walk_at "lv"))

namespace CM
open PySem PySem.Spec PyProof.Rows L2 DL KwX GdX
variable {P : Program} {w : World} {K : PySem.W.Frag} {C : Str → Addr} {T : List (Addr × Str)} {E : XK}
theorem good_in (v : D) (i : Nat) : isIn v (cLo i) (cHi i) = good v i := by cases v <;> rfl
inductive R_in_table (P : Program) (w : World) (K : PySem.W.Frag) (C : Str → Addr) (T : List (Addr × Str)) : FR
  | mk {i v g} (hi : i < 15) (hv : noScr v = true) : R_in_table P w K C T ⟨[.dat (.str (cN i)), .dat v], g⟩ (.rt (.bool (good v i)) ⟨[.dat (.str (cN i)), .dat v], g⟩)
inductive R_chosen (P : Program) (w : World) (K : PySem.W.Frag) (C : Str → Addr) (T : List (Addr × Str)) : FR
  | ok {ps p g} (h1 : ps.all isKnown = true) (hp : fdL ps = plKV p) (ok : POk p) (hl : ps.length ≤ 1000) : R_chosen P w K C T ⟨[.dat (frzD (kwD ps))], g⟩ (.rt (plD p) ⟨[.dat (frzD (kwD ps))], g⟩)
  | no {ps nm g} (h : BadP ps nm) (hl : ps.length ≤ 1000) : R_chosen P w K C T ⟨[.dat (frzD (kwD ps))], g⟩ (.ex (C "BadPlan") "name" (.str nm) ⟨[.dat (frzD (kwD ps))], g⟩)
inductive R_Plan___init__ (P : Program) (w : World) (K : PySem.W.Frag) (C : Str → Addr) (T : List (Addr × Str)) : FR
  | ok {v ps p g} (h1 : ps.all isKnown = true) (hp : fdL ps = plKV p) (ok : POk p) (hl : ps.length ≤ 1000) : R_Plan___init__ P w K C T ⟨[.res (insR K (C "Plan") (some v) []), .dat (frzD (kwD ps))], g⟩ (.rt .none ⟨[.res (insR K (C "Plan") (some v) (plF p)), .dat (frzD (kwD ps))], g⟩)
  | no {v ps nm g} (h : BadP ps nm) (hl : ps.length ≤ 1000) : R_Plan___init__ P w K C T ⟨[.res (insR K (C "Plan") (some v) []), .dat (frzD (kwD ps))], g⟩ (.ex (C "BadPlan") "name" (.str nm) ⟨[.unk, .dat (frzD (kwD ps))], g⟩)
inductive R_Plan_row (K : PySem.W.Frag) (C : Str → Addr) (T : List (Addr × Str)) : FR
  | mk {p g} : R_Plan_row K C T ⟨[.dat (plO C p)], g⟩ (.rt (.tuple (rowL p)) ⟨[.dat (plO C p)], g⟩)
inductive R_Plan_changed (P : Program) (w : World) (K : PySem.W.Frag) (C : Str → Addr) (T : List (Addr × Str)) : FR
  | ok {p ps p' g} (h : dmerge (plKV p) (toK ps) = plKV p') (ok : POk p') (hl : ps.length ≤ 1000) : R_Plan_changed P w K C T ⟨[.dat (plO C p), .dat (frzD (kwD ps))], g⟩ (.rt (plO C p') ⟨[.dat (plO C p), .dat (frzD (kwD ps))], g⟩)
  | no {p ps qs nm g} (h : dmerge (plKV p) (toK ps) = kwD qs) (hq : (qs.map (·.1)).Nodup) (hs : ("self" : Str) ∉ qs.map (·.1)) (hd : ∃ x l, qs = x :: l) (hb : BadP qs nm) (hl : ps.length ≤ 1000) (hl2 : qs.length ≤ 1000) : R_Plan_changed P w K C T ⟨[.dat (plO C p), .dat (frzD (kwD ps))], g⟩ (.ex (C "BadPlan") "name" (.str nm) ⟨[.dat (plO C p), .dat (frzD (kwD ps))], g⟩)
inductive R__law_l_plan (P : Program) (w : World) (K : PySem.W.Frag) (C : Str → Addr) (T : List (Addr × Str)) : FR
  | mk {p g} (ok : POk p) : R__law_l_plan P w K C T ⟨[.dat (plD p)], g⟩ (.rt (plO C p) ⟨[.dat (plD p)], g⟩)
  | no {f i g} (hn : ∀ i < 15, noScr (f i) = true) (hb : badN f = some i) : R__law_l_plan P w K C T ⟨[.dat (aD f)], g⟩ (.ex (C "BadPlan") "name" (.str (cN i)) ⟨[.dat (aD f)], g⟩)
def t_in_table (P : Program) (w : World) (K : PySem.W.Frag) (C : Str → Addr) (T : List (Addr × Str)) (E : XK) : TS :=
  (tSeq (tAsg (tOp (KwX.rIxDR P w K) (tC (.ref (C "BOUNDS"))) (tVar 0)) (gTup K 2 (gCons (gName 2) (gCons (gName 3) gNil))))
    (tRet (tCall (spF K (R_is_in K C T)) [] E (tCons (tVar 1) (tCons (tVar 2) (tCons (tVar 3) tNil))))))
def t_chosen (P : Program) (w : World) (K : PySem.W.Frag) (C : Str → Addr) (T : List (Addr × Str)) (E : XK) : TS :=
  (tSeq (tFor (iKeys (tVar 0)) (gName 1) (tIfS (tTest (tOp (KwX.rInDR P w K true) (tVar 1) (tC (.ref (C "DEFAULTS"))))) (BX.tRaiseX (C "BadPlan") "name" (fun cls d _ H => E cls d H) (tCons (tVar 1) tNil)) tNext))
    (tSeq (tAsg (KwX.tMrg P w K (tC (.ref (C "DEFAULTS"))) (tVar 0)) (gName 2))
    (tSeq (tFor (iSeq K (tC (.ref (C "CHOICES")))) (gName 1) (tIfS (tNot (tB (tCall (spF K (R_in_table P w K C T)) [] E (tCons (tVar 1) (tCons (tDGet (tVar 2) (tVar 1)) tNil))))) (BX.tRaiseX (C "BadPlan") "name" (fun cls d _ H => E cls d H) (tCons (tVar 1) tNil)) tNext))
    (tRet (tVar 2)))))
def t_Plan___init__ (P : Program) (w : World) (K : PySem.W.Frag) (C : Str → Addr) (T : List (Addr × Str)) (E : XK) : TS :=
  (tSeq (tAsg (tCall (spF K (R_chosen P w K C T)) [] E (tCons (tVar 1) tNil)) (gName 2))
    (tSeq (sFld K (tVar 0) (tVar 2) "_found")
    (tSeq (sFld K (tVar 0) (tDGet (tVar 2) (tC (.str "rows"))) "rows")
    (tSeq (sFld K (tVar 0) (tDGet (tVar 2) (tC (.str "lamps"))) "lamps")
    (tSeq (sFld K (tVar 0) (tDGet (tVar 2) (tC (.str "crews"))) "crews")
    (tSeq (sFld K (tVar 0) (tDGet (tVar 2) (tC (.str "work"))) "work")
    (tSeq (sFld K (tVar 0) (tDGet (tVar 2) (tC (.str "every"))) "every")
    (tSeq (sFld K (tVar 0) (tDGet (tVar 2) (tC (.str "early"))) "early")
    (tSeq (sFld K (tVar 0) (tDGet (tVar 2) (tC (.str "sync"))) "sync")
    (tSeq (sFld K (tVar 0) (tDGet (tVar 2) (tC (.str "burst"))) "burst")
    (tSeq (sFld K (tVar 0) (tDGet (tVar 2) (tC (.str "gap"))) "gap")
    (tSeq (sFld K (tVar 0) (tDGet (tVar 2) (tC (.str "trips"))) "trips")
    (tSeq (sFld K (tVar 0) (tDGet (tVar 2) (tC (.str "drift"))) "drift")
    (tSeq (sFld K (tVar 0) (tDGet (tVar 2) (tC (.str "cloud"))) "cloud")
    (tSeq (sFld K (tVar 0) (tDGet (tVar 2) (tC (.str "most"))) "most")
    (tSeq (sFld K (tVar 0) (tDGet (tVar 2) (tC (.str "fixed"))) "fixed")
    (sFld K (tVar 0) (tDGet (tVar 2) (tC (.str "spare"))) "spare")))))))))))))))))
def t_Plan_row (K : PySem.W.Frag) (C : Str → Addr) (T : List (Addr × Str)) (E : XK) : TS :=
  (tRet (tCB (rDn K seqOk tupD) (tCons (tLc (iSeq K (tC (.ref (C "CHOICES")))) (gName 1) tYes (tDGet (tFld K (tVar 0) "_found") (tVar 1)) [1]) tNil)))
def t_Plan_changed (P : Program) (w : World) (K : PySem.W.Frag) (C : Str → Addr) (T : List (Addr × Str)) (E : XK) : TS :=
  (tSeq (tAsg (KwX.tMrg P w K (tFld K (tVar 0) "_found") (tVar 1)) (gName 2))
    (tRet (KwX.tMakeDs P w K (C "Plan") "self" (spF K (R_Plan___init__ P w K C T)) E (tVar 2))))
def t__law_l_plan (P : Program) (w : World) (K : PySem.W.Frag) (C : Str → Addr) (T : List (Addr × Str)) (E : XK) : TS :=
  (tRet (KwX.tMakeKw (C "Plan") ["rows", "lamps", "crews", "work", "every", "early", "sync", "burst", "gap", "trips", "drift", "cloud", "most", "fixed", "spare"] (spF K (R_Plan___init__ P w K C T)) E (tCons (tDGet (tVar 0) (tC (.str "rows"))) (tCons (tDGet (tVar 0) (tC (.str "lamps"))) (tCons (tDGet (tVar 0) (tC (.str "crews"))) (tCons (tDGet (tVar 0) (tC (.str "work"))) (tCons (tDGet (tVar 0) (tC (.str "every"))) (tCons (tDGet (tVar 0) (tC (.str "early"))) (tCons (tDGet (tVar 0) (tC (.str "sync"))) (tCons (tDGet (tVar 0) (tC (.str "burst"))) (tCons (tDGet (tVar 0) (tC (.str "gap"))) (tCons (tDGet (tVar 0) (tC (.str "trips"))) (tCons (tDGet (tVar 0) (tC (.str "drift"))) (tCons (tDGet (tVar 0) (tC (.str "cloud"))) (tCons (tDGet (tVar 0) (tC (.str "most"))) (tCons (tDGet (tVar 0) (tC (.str "fixed"))) (tCons (tDGet (tVar 0) (tC (.str "spare"))) tNil)))))))))))))))))
theorem rd_in_table {i : Nat} {v : D} {g} (hk : Pk P w K C) (hi : i < 15) (hv : noScr v = true) : Run K E (t_in_table P w K C T E) ⟨[.dat (.str (cN i)), .dat v, .unk, .unk], g⟩ (.rt (.bool (good v i)) ⟨[.dat (.str (cN i)), .dat v, .unk, .unk], g⟩) := by
  apply run_seq
  · apply run_asgT
    · exact ev_ixWD (k := .inr (cN i)) hk.bd (ev_var rfl) (bd_look i hi)
    walk_at "tg"
  walk_at "d"
  refine run_rtle (run_ret (Ev.to (ev_call (ea_cons (ev_var rfl) (ea_cons (ev_var rfl) (ea_cons (ev_var rfl) ea_nil))) (.mk hv)) (by rw [← good_in]; rfl))) (Fo.le (by walk_at "fo"))
theorem ch_mem {d : D} (h : d ∈ chNames.map PyData.str) : ∃ i < 15, d = .str (cN i) := by
  obtain ⟨x, hx, rfl⟩ := List.mem_map.mp h
  obtain ⟨i, hi⟩ := List.mem_iff_getElem?.mp hx
  refine ⟨i, ?_, ?_⟩
  · have := (List.getElem?_eq_some_iff.mp hi).1
    exact this
  · show _ = PyData.str (chNames.getD i "")
    rw [List.getD_eq_getElem?_getD, hi]
    rfl
theorem rd_chosen {ps : List (Str × D)} {p : PL} {g} (hk : Pk P w K C) (h1 : ps.all isKnown = true) (hp : fdL ps = plKV p) (ok : POk p) (hl : ps.length ≤ 1000) :
    Run K E (t_chosen P w K C T E) ⟨[.dat (frzD (kwD ps)), .unk, .unk], g⟩ (.rt (plD p) ⟨[.dat (frzD (kwD ps)), .unk, .unk], g⟩) := by
  apply run_seq
  · refine run_forAll (s0 := ⟨[.dat (frzD (kwD ps)), .unk, .unk], g⟩) (fun _ => false) (it_keys (ev_var rfl)) (SLe.refl _) (fun _ _ => rfl) fun d hd _ => ?_
    rw [List.map_map] at hd
    obtain ⟨x, hx, rfl⟩ := List.mem_map.mp hd
    refine ⟨_, tg_name, ?_⟩
    walk_at "d"
    have kn : isKnown x = true := List.all_eq_true.mp h1 x hx
    refine run_le (run_no (et_test (Ev.to (ev_inWD (k := .inr x.1) (neg := true) hk.df (ev_var rfl)) ?_)) run_next) (Fo.le (by walk_at "fo"))
    rw [if_pos rfl]
    rw [show (dlook (plKV dfP) (.inr x.1)).isSome = true from kn]
    rfl
  apply run_seq
  · apply run_asgO
    refine ev_mrgWD (pa := toK (plPs dfP)) (pb := toK ps) ?_ (ev_var rfl) ?_ ?_
    · rw [kd_toK]; exact hk.df
    · rw [kd_toK]; exact .fr _
    · have : 2000 ≤ sizeLine := le_size (by decide)
      have e1 : (toK (plPs dfP)).length = 15 := rfl
      have e2 : (toK ps).length = ps.length := by unfold toK; rw [List.length_map]
      omega
  walk_at "d"
  rw [df_merge, show dmerge (plKV dfP) (toK ps) = plKV p from hp]
  refine run_frzD (i := 2) (ov := none) (ds := plKV p) rfl ?_
  walk_at "d"
  apply run_seq
  · refine run_forAll (s0 := ⟨[.dat (frzD (kwD ps)), .unk, .dat (plD p)], g⟩) (fun _ => false) (it_seq (ev_const hk.ch) rfl) (SLe.refl _) (fun _ _ => rfl) fun d hd _ => ?_
    obtain ⟨i, hi, rfl⟩ := ch_mem hd
    refine ⟨_, tg_name, ?_⟩
    walk_at "d"
    refine run_le (run_no (et_not (b := true) (et_B (Ev.to (ev_call (ea_cons (ev_var rfl) (ea_cons (ev_dget (k := .inr (cN i)) (ev_var rfl) (ev_var rfl) (look_get i hi)) ea_nil)) (.mk hi rfl)) ?_))) run_next) (Fo.le (by walk_at "fo"))
    have := bad_none (pl_good ok) i hi
    rw [show good (.int (plGet p i)) i = true from this]
  refine run_rtle (run_ret (ev_var rfl)) (Fo.le (by walk_at "fo"))
theorem ch_at {k : Nat} {d : D} (h : (chNames.map PyData.str)[k]? = some d) : k < 15 ∧ d = .str (cN k) := by
  have h1 := (List.getElem?_eq_some_iff.mp h).1
  refine ⟨h1, ?_⟩
  rw [List.getElem?_map] at h
  show _ = PyData.str (chNames.getD k "")
  rw [List.getD_eq_getElem?_getD]
  cases e : chNames[k]? with
  | none => rw [e] at h; cases h
  | some y => rw [e] at h; cases h; rfl
theorem ch_get {k : Nat} (h : k < 15) : (chNames.map PyData.str)[k]? = some (.str (cN k)) := by
  obtain ⟨d, hd⟩ : ∃ d, (chNames.map PyData.str)[k]? = some d := ⟨_, List.getElem?_eq_getElem (show k < (chNames.map PyData.str).length from h)⟩
  rw [hd, (ch_at hd).2]
theorem run_asgX {te : TE} {s s1 : S} {d : D} {i : Nat} {c : Addr} {fl : Str} (h : EvR K E te s c fl d s1) : Run K E (tAsg te (gName i)) s (.ex c fl d s1) := fun σ H F fp e Ed q => h σ H F fp e _ fun dd v H' F' fp' e' st a b => q σ dd v H' F' fp' e' st a b
theorem rd_chosen_no {ps : List (Str × D)} {nm : Str} {g} (hk : Pk P w K C) (h : BadP ps nm) (hl : ps.length ≤ 1000) :
    Run K E (t_chosen P w K C T E) ⟨[.dat (frzD (kwD ps)), .unk, .unk], g⟩ (.ex (C "BadPlan") "name" (.str nm) ⟨[.dat (frzD (kwD ps)), .unk, .unk], g⟩) := by
  have look1 : ∀ (s : S) (x : Str × D), s.s[1]? = some (.dat (.str x.1)) → EvT K (tTest (tOp (rInDR P w K true) (tVar 1) (tC (.ref (C "DEFAULTS"))))) s (!isKnown x) s := fun s x h1 =>
    et_test (Ev.to (ev_inWD (k := .inr x.1) (neg := true) hk.df (ev_var h1)) (by rw [if_pos rfl]; rfl))
  cases h with
  | @unk x k hx hu hb =>
    refine run_end (run_forG (fun _ => ⟨[.dat (frzD (kwD ps)), .unk, .unk], g⟩) k (it_keys (ev_var rfl)) (SLe.refl _) ?_ (fun i d hi hd => ?_) (.inr ⟨.str x.1, _, .ex (C "BadPlan") "name" (.str x.1) ⟨[.dat (frzD (kwD ps)), .unk, .unk], g⟩, ?_, tg_name, ?_, rfl, rfl⟩)) rfl
    · rw [List.length_map, List.length_map]
      exact Nat.le_of_lt (List.getElem?_eq_some_iff.mp hx).1
    · rw [List.map_map, List.getElem?_map] at hd
      cases e : ps[i]? with
      | none => rw [e] at hd; cases hd
      | some y =>
        rw [e] at hd; cases hd
        refine ⟨_, tg_name, ?_⟩
        walk_at "d"
        exact run_le (run_no ((look1 _ y rfl).to (by rw [hb i y hi e]; rfl)) run_next) (Fo.le (by walk_at "fo"))
    · rw [List.map_map, List.getElem?_map, hx]; rfl
    · walk_at "d"
      exact run_exle (run_yes ((look1 _ x rfl).to (by rw [hu]; rfl)) (run_raise (ea_cons (ev_var rfl) ea_nil) fun _ _ _ _ h => h)) (Fo.le (by walk_at "fo"))
  | @val f i h1 hf hn hb =>
    obtain ⟨b1, b2, b3⟩ := bad_some hb
    apply run_seq
    · refine run_forAll (s0 := ⟨[.dat (frzD (kwD ps)), .unk, .unk], g⟩) (fun _ => false) (it_keys (ev_var rfl)) (SLe.refl _) (fun _ _ => rfl) fun d hd _ => ?_
      rw [List.map_map] at hd
      obtain ⟨x, hx, rfl⟩ := List.mem_map.mp hd
      refine ⟨_, tg_name, ?_⟩
      walk_at "d"
      exact run_le (run_no ((look1 _ x rfl).to (by rw [List.all_eq_true.mp h1 x hx]; rfl)) run_next) (Fo.le (by walk_at "fo"))
    apply run_seq
    · apply run_asgO
      refine ev_mrgWD (pa := toK (plPs dfP)) (pb := toK ps) ?_ (ev_var rfl) ?_ ?_
      · rw [kd_toK]; exact hk.df
      · rw [kd_toK]; exact .fr _
      · have : 2000 ≤ sizeLine := le_size (by decide)
        have e1 : (toK (plPs dfP)).length = 15 := rfl
        have e2 : (toK ps).length = ps.length := by unfold toK; rw [List.length_map]
        omega
    walk_at "d"
    rw [df_merge, show dmerge (plKV dfP) (toK ps) = aKV f from hf]
    refine run_frzD (i := 2) (ov := none) (ds := aKV f) rfl ?_
    walk_at "d"
    have tb : ∀ (s : S) (j : Nat), j < 15 → s.s[1]? = some (.dat (.str (cN j))) → s.s[2]? = some (.dat (.dict (aKV f))) → EvT K (tNot (tB (tCall (spF K (R_in_table P w K C T)) [] E (tCons (tVar 1) (tCons (tDGet (tVar 2) (tVar 1)) tNil))))) s (!good (f j) j) s := fun s j hj e1 e2 =>
      et_not (et_B (ev_call (ea_cons (ev_var e1) (ea_cons (ev_dget (k := .inr (cN j)) (ev_var e2) (ev_var e1) (look_a j hj)) ea_nil)) (.mk hj (hn j hj))))
    refine run_end (run_forG (fun _ => ⟨[.dat (frzD (kwD ps)), .unk, .dat (.dict (aKV f))], g⟩) i (it_seq (ev_const hk.ch) rfl) (SLe.refl _) (Nat.le_of_lt b1) (fun j d hj hd => ?_) (.inr ⟨.str (cN i), _, .ex (C "BadPlan") "name" (.str (cN i)) ⟨[.dat (frzD (kwD ps)), .unk, .unk], g⟩, ch_get b1, tg_name, ?_, rfl, rfl⟩)) rfl
    · obtain ⟨g1, rfl⟩ := ch_at hd
      refine ⟨_, tg_name, ?_⟩
      walk_at "d"
      exact run_le (run_no ((tb _ j g1 rfl rfl).to (by rw [b3 j hj]; rfl)) run_next) (Fo.le (by walk_at "fo"))
    · walk_at "d"
      exact run_exle (run_yes ((tb _ i b1 rfl rfl).to (by rw [b2]; rfl)) (run_raise (ea_cons (ev_var rfl) ea_nil) fun _ _ _ _ h => h)) (Fo.le (by walk_at "fo"))
theorem rd_Plan___init___no {v : V} {ps : List (Str × D)} {nm : Str} {g} (hk : Pk P w K C) (h : BadP ps nm) (hl : ps.length ≤ 1000) :
    Run K E (t_Plan___init__ P w K C T E) ⟨[.res (insR K (C "Plan") (some v) []), .dat (frzD (kwD ps)), .unk], g⟩ (.ex (C "BadPlan") "name" (.str nm) ⟨[.unk, .dat (frzD (kwD ps)), .unk], g⟩) :=
  run_exle (run_end (run_asgX (er_call (ea_cons (ev_var rfl) ea_nil) (.no h hl))) rfl) (Fo.le (by walk_at "fo"))
theorem na_mem {f : Str} (hk : Pk P w K C) (h : f ∈ ("_found" : Str) :: chNames) : NoAttr K (C "Plan") f := hk.na f h
theorem rd_Plan___init__ {v : V} {ps : List (Str × D)} {p : PL} {g} (hk : Pk P w K C) (h1 : ps.all isKnown = true) (hp : fdL ps = plKV p) (ok : POk p) (hl : ps.length ≤ 1000) :
    Run K E (t_Plan___init__ P w K C T E) ⟨[.res (insR K (C "Plan") (some v) []), .dat (frzD (kwD ps)), .unk], g⟩ (.nx ⟨[.res (insR K (C "Plan") (some v) (plF p)), .dat (frzD (kwD ps)), .dat (plD p)], g⟩) := by
  apply run_seq
  · exact run_asg (ev_call (ea_cons (ev_var rfl) ea_nil) (.ok h1 hp ok hl))
  walk_at "d"
  have st : ∀ (k : Nat) (f : Str) (d : D) (te : TE), k < 16 → (plF p).take k ++ [(.str f, d)] = (plF p).take (k + 1) → f ∈ ("_found" : Str) :: chNames → dlook ((plF p).take k) (.inr f) = none →
      Ev K te ⟨[.res (insR K (C "Plan") (some v) ((plF p).take k)), .dat (frzD (kwD ps)), .dat (plD p)], g⟩ d ⟨[.res (insR K (C "Plan") (some v) ((plF p).take k)), .dat (frzD (kwD ps)), .dat (plD p)], g⟩ →
      Run K E (sFld K (tVar 0) te f) ⟨[.res (insR K (C "Plan") (some v) ((plF p).take k)), .dat (frzD (kwD ps)), .dat (plD p)], g⟩ (.nx ⟨[.res (insR K (C "Plan") (some v) ((plF p).take (k + 1))), .dat (frzD (kwD ps)), .dat (plD p)], g⟩) := by
    intro k f d te hk' e hf hn h
    have := run_fldN (i := 0) (E := E) h rfl hk.ob.cl (hk.na f hf) (by rw [List.length_take]; omega) hn
    rw [e] at this
    exact this
  apply run_seq
  · exact st 0 "_found" (plD p) _ (by decide) rfl (by decide +kernel) rfl (ev_var rfl)
  apply run_seq
  · exact st 1 "rows" (.int p.rows) _ (by decide) rfl (by decide +kernel) (by kernel_rfl) (ev_dget (k := .inr "rows") (ev_var rfl) ev_str pl_rows)
  apply run_seq
  · exact st 2 "lamps" (.int p.lamps) _ (by decide) rfl (by decide +kernel) (by kernel_rfl) (ev_dget (k := .inr "lamps") (ev_var rfl) ev_str pl_lamps)
  apply run_seq
  · exact st 3 "crews" (.int p.crews) _ (by decide) rfl (by decide +kernel) (by kernel_rfl) (ev_dget (k := .inr "crews") (ev_var rfl) ev_str pl_crews)
  apply run_seq
  · exact st 4 "work" (.int p.work) _ (by decide) rfl (by decide +kernel) (by kernel_rfl) (ev_dget (k := .inr "work") (ev_var rfl) ev_str pl_work)
  apply run_seq
  · exact st 5 "every" (.int p.every) _ (by decide) rfl (by decide +kernel) (by kernel_rfl) (ev_dget (k := .inr "every") (ev_var rfl) ev_str pl_every)
  apply run_seq
  · exact st 6 "early" (.int p.early) _ (by decide) rfl (by decide +kernel) (by kernel_rfl) (ev_dget (k := .inr "early") (ev_var rfl) ev_str pl_early)
  apply run_seq
  · exact st 7 "sync" (.int p.sync) _ (by decide) rfl (by decide +kernel) (by kernel_rfl) (ev_dget (k := .inr "sync") (ev_var rfl) ev_str pl_sync)
  apply run_seq
  · exact st 8 "burst" (.int p.burst) _ (by decide) rfl (by decide +kernel) (by kernel_rfl) (ev_dget (k := .inr "burst") (ev_var rfl) ev_str pl_burst)
  apply run_seq
  · exact st 9 "gap" (.int p.gap) _ (by decide) rfl (by decide +kernel) (by kernel_rfl) (ev_dget (k := .inr "gap") (ev_var rfl) ev_str pl_gap)
  apply run_seq
  · exact st 10 "trips" (.int p.trips) _ (by decide) rfl (by decide +kernel) (by kernel_rfl) (ev_dget (k := .inr "trips") (ev_var rfl) ev_str pl_trips)
  apply run_seq
  · exact st 11 "drift" (.int p.drift) _ (by decide) rfl (by decide +kernel) (by kernel_rfl) (ev_dget (k := .inr "drift") (ev_var rfl) ev_str pl_drift)
  apply run_seq
  · exact st 12 "cloud" (.int p.cloud) _ (by decide) rfl (by decide +kernel) (by kernel_rfl) (ev_dget (k := .inr "cloud") (ev_var rfl) ev_str pl_cloud)
  apply run_seq
  · exact st 13 "most" (.int p.most) _ (by decide) rfl (by decide +kernel) (by kernel_rfl) (ev_dget (k := .inr "most") (ev_var rfl) ev_str pl_most)
  apply run_seq
  · exact st 14 "fixed" (.int p.fixed) _ (by decide) rfl (by decide +kernel) (by kernel_rfl) (ev_dget (k := .inr "fixed") (ev_var rfl) ev_str pl_fixed)
  exact st 15 "spare" (.int p.spare) _ (by decide) rfl (by decide +kernel) (by kernel_rfl) (ev_dget (k := .inr "spare") (ev_var rfl) ev_str pl_spare)
theorem rd_Plan_row {p : PL} {g} (hk : Pk P w K C) : Run K E (t_Plan_row K C T E) ⟨[.dat (plO C p), .unk], g⟩ (.rt (.tuple (rowL p)) ⟨[.dat (plO C p), .unk], g⟩) := by
  refine run_ret (ev_tupL (Ev.to (ev_lcM (fun d => match d with | .str n => (dlook (plKV p) (.inr n)).getD .none | _ => .none) (it_seq (ev_const hk.ch) rfl) (le_size (by decide)) (by walk_at "nr") fun d hd => ?_) ?_))
  · obtain ⟨i, hi, rfl⟩ := ch_mem hd
    refine ⟨_, tv_name (by simp), Fo.le (by walk_at "fo"), ?_⟩
    refine Ev.to (ev_dget (k := .inr (cN i)) (ev_fld (ev_var rfl) hk.ob.cl (hk.na _ (by decide +kernel)) pf_found) (ev_var rfl) (look_get i hi)) ?_
    show _ = (dlook (plKV p) (.inr (cN i))).getD .none
    rw [show dlook (plKV p) (.inr (cN i)) = some (.int (plGet p i)) from look_get i hi]
    rfl
  · kernel_rfl
theorem mrg_self (p : PL) : dmerge [] (toK (plPs p)) = plKV p := by kernel_rfl
theorem isd_pl (p : PL) : IsDict (plD p) (kwD (plPs p)) := .pl _ (fun d h b e => by cases h; cases e) (fun d h e => by cases h; cases e)
theorem rd_Plan_changed {p p' : PL} {ps : List (Str × D)} {g} (hk : Pk P w K C) (h : dmerge (plKV p) (toK ps) = plKV p') (ok : POk p') (hl : ps.length ≤ 1000) :
    Run K E (t_Plan_changed P w K C T E) ⟨[.dat (plO C p), .dat (frzD (kwD ps)), .unk], g⟩ (.rt (plO C p') ⟨[.dat (plO C p), .dat (frzD (kwD ps)), .unk], g⟩) := by
  apply run_seq
  · apply run_asgO
    refine ev_mrg (pa := toK (plPs p)) (pb := toK ps) (ev_fld (ev_var rfl) hk.ob.cl (hk.na _ (by decide +kernel)) pf_found) ?_ (ev_var rfl) ?_ ?_
    · rw [kd_toK]; exact isd_pl p
    · rw [kd_toK]; exact .fr _
    · have : 2000 ≤ sizeLine := le_size (by decide)
      have e1 : (toK (plPs p)).length = 15 := rfl
      have e2 : (toK ps).length = ps.length := by unfold toK; rw [List.length_map]
      omega
  walk_at "d"
  rw [mrg_self, h]
  refine run_frzD (i := 2) (ov := none) (ds := plKV p') rfl ?_
  walk_at "d"
  refine run_rtle (run_ret (ev_makeDs (ps := plPs p') (ev_var rfl) (isd_pl p') (pl_nodup p') (pl_self p') fun v => .ok (known_pl p') (fd_pl p') ok (by show 15 ≤ 1000; decide))) (Fo.le (by walk_at "fo"))
theorem isd_kw {ps : List (Str × D)} (h : ∃ x l, ps = x :: l) : IsDict (.dict (kwD ps)) (kwD ps) := by
  obtain ⟨x, l, rfl⟩ := h
  exact .pl _ (fun d h b e => by cases h; cases e) (fun d h e => by cases h; cases e)
theorem rd_Plan_changed_no {p : PL} {ps qs : List (Str × D)} {nm : Str} {g} (hk : Pk P w K C) (h : dmerge (plKV p) (toK ps) = kwD qs) (hq : (qs.map (·.1)).Nodup) (hs : ("self" : Str) ∉ qs.map (·.1)) (hd : ∃ x l, qs = x :: l) (hb : BadP qs nm) (hl : ps.length ≤ 1000) (hl2 : qs.length ≤ 1000) :
    Run K E (t_Plan_changed P w K C T E) ⟨[.dat (plO C p), .dat (frzD (kwD ps)), .unk], g⟩ (.ex (C "BadPlan") "name" (.str nm) ⟨[.dat (plO C p), .dat (frzD (kwD ps)), .unk], g⟩) := by
  apply run_seq
  · apply run_asgO
    refine ev_mrg (pa := toK (plPs p)) (pb := toK ps) (ev_fld (ev_var rfl) hk.ob.cl (hk.na _ (by decide +kernel)) pf_found) ?_ (ev_var rfl) ?_ ?_
    · rw [kd_toK]; exact isd_pl p
    · rw [kd_toK]; exact .fr _
    · have : 2000 ≤ sizeLine := le_size (by decide)
      have e1 : (toK (plPs p)).length = 15 := rfl
      have e2 : (toK ps).length = ps.length := by unfold toK; rw [List.length_map]
      omega
  walk_at "d"
  rw [mrg_self, h]
  refine run_frzD (i := 2) (ov := none) (ds := kwD qs) rfl ?_
  walk_at "d"
  exact run_exle (run_retX (er_makeDs (ps := qs) (ev_var rfl) (isd_kw hd) hq hs fun v => .no hb hl2)) (Fo.le (by walk_at "fo"))
theorem rd__law_l_plan_no {f : Nat → D} {i : Nat} {g} (hk : Pk P w K C) (hn : ∀ i < 15, noScr (f i) = true) (hb : badN f = some i) : Run K E (t__law_l_plan P w K C T E) ⟨[.dat (aD f)], g⟩ (.ex (C "BadPlan") "name" (.str (cN i)) ⟨[.dat (aD f)], g⟩) := by
  have lk : ∀ (nm : Str) (j : Nat), j < 15 → nm = cN j → Ev K (tDGet (tVar 0) (tC (.str nm))) ⟨[.dat (aD f)], g⟩ (f j) ⟨[.dat (aD f)], g⟩ := fun nm j hj e => ev_dget (k := .inr nm) (ev_var rfl) ev_str (by rw [e]; exact look_a j hj)
  refine run_retX (er_makeKw (ds := (aPs f).map (·.2)) ?_ rfl fun v => .no (ps := aPs f) (bad_a hn hb) (by show 15 ≤ 1000; decide))
  exact ea_cons (lk _ 0 (by decide) rfl) (ea_cons (lk _ 1 (by decide) rfl) (ea_cons (lk _ 2 (by decide) rfl) (ea_cons (lk _ 3 (by decide) rfl) (ea_cons (lk _ 4 (by decide) rfl) (ea_cons (lk _ 5 (by decide) rfl) (ea_cons (lk _ 6 (by decide) rfl) (ea_cons (lk _ 7 (by decide) rfl) (ea_cons (lk _ 8 (by decide) rfl) (ea_cons (lk _ 9 (by decide) rfl) (ea_cons (lk _ 10 (by decide) rfl) (ea_cons (lk _ 11 (by decide) rfl) (ea_cons (lk _ 12 (by decide) rfl) (ea_cons (lk _ 13 (by decide) rfl) (ea_cons (lk _ 14 (by decide) rfl) ea_nil))))))))))))))
theorem rd__law_l_plan {p : PL} {g} (hk : Pk P w K C) (ok : POk p) : Run K E (t__law_l_plan P w K C T E) ⟨[.dat (plD p)], g⟩ (.rt (plO C p) ⟨[.dat (plD p)], g⟩) := by
  refine run_ret (ev_makeKw (ds := (plPs p).map (·.2)) ?_ rfl fun v => .ok (ps := plPs p) (known_pl p) (fd_pl p) ok (by show 15 ≤ 1000; decide))
  walk_at "ea"
end CM

namespace K11
open PySem PySem.Spec PyProof.Rows L2 DL KwX GdX CM
variable {P : Program} {w : World} {K : PySem.W.Frag} {C : Str → Addr} {T : List (Addr × Str)} {E : XK}
/-! ### own == -/
inductive R_Plan___eq__ (K : PySem.W.Frag) (C : Str → Addr) (T : List (Addr × Str)) : FR
  | pl {p q g} : R_Plan___eq__ K C T ⟨[.dat (plO C p), .dat (plO C q)], g⟩ (.rt (.bool (PyData.eqv (.tuple (rowL p)) (.tuple (rowL q)))) ⟨[.dat (plO C p), .dat (plO C q)], g⟩)
  | ot {p d g} (hn : noScr d = true) : R_Plan___eq__ K C T ⟨[.dat (plO C p), .dat d], g⟩ (.rt (.bool false) ⟨[.dat (plO C p), .dat d], g⟩)
def t_Plan___eq__ (K : PySem.W.Frag) (C : Str → Addr) (T : List (Addr × Str)) (E : XK) : TS :=
  (tRet (tAndV (tCB (rIsi K) (tCons (tVar 1) (tCons (tC (.ref (C "Plan"))) tNil))) (tOp (rD2 K eqOk eqD) (tMeth (C "Plan") "row" (spF K (R_Plan_row K C T)) [] E (tVar 0) tNil) (tMeth (C "Plan") "row" (spF K (R_Plan_row K C T)) [] E (tVar 1) tNil))))
theorem row_ints (p : PL) : rowL p = ((List.range 15).map (plGet p)).map PyData.int := rfl
theorem row_ok (p : PL) : SeqAt.shaped (.tuple (rowL p)) = true := by rw [row_ints]; exact okT _
theorem rd_eq_pl {p q : PL} {g} (hk : Pk P w K C) : Run K E (t_Plan___eq__ K C T E) ⟨[.dat (plO C p), .dat (plO C q)], g⟩ (.rt (.bool (PyData.eqv (.tuple (rowL p)) (.tuple (rowL q)))) ⟨[.dat (plO C p), .dat (plO C q)], g⟩) :=
  run_ret (ev_and (a := true) (ev_iscY (ev_var rfl) hk.ob) fun _ => ev_op (f := eqD) (ev_meth (ev_var rfl) pf_row ea_nil R_Plan_row.mk) (ev_meth (ev_var rfl) pf_row ea_nil R_Plan_row.mk) ⟨row_ok p, row_ok q⟩)
theorem rd_eq_ot {p : PL} {d : D} {g} (hk : Pk P w K C) (hn : noScr d = true) : Run K E (t_Plan___eq__ K C T E) ⟨[.dat (plO C p), .dat d], g⟩ (.rt (.bool false) ⟨[.dat (plO C p), .dat d], g⟩) :=
  run_ret (ev_andF (ev_iscN (ev_var rfl) hn hk.ob))
/-! ### the table -/
def tbN : List (Str × Int) := [("rows", 2), ("lamps", 2), ("crews", 2), ("work", 4), ("every", 6), ("early", 12), ("sync", 3), ("burst", 2), ("gap", 6), ("trips", 1), ("drift", 2), ("cloud", 5), ("most", 9), ("fixed", 20), ("spare", 30)]
def tbL : List D := tbN.map fun x => .tuple [.str x.1, .int x.2]
def cDf (i : Nat) : Int := (tbN.getD i ("", 0)).2
theorem tb_at {k : Nat} {d : D} (h : tbL[k]? = some d) : k < 15 ∧ d = .tuple [.str (cN k), .int (cDf k)] := by
  have h1 : k < 15 := (List.getElem?_eq_some_iff.mp h).1
  refine ⟨h1, ?_⟩
  have : tbL[k]? = some (.tuple [.str (cN k), .int (cDf k)]) := by
    match k, h1 with
    | 0, _ => rfl
    | 1, _ => rfl
    | 2, _ => rfl
    | 3, _ => rfl
    | 4, _ => rfl
    | 5, _ => rfl
    | 6, _ => rfl
    | 7, _ => rfl
    | 8, _ => rfl
    | 9, _ => rfl
    | 10, _ => rfl
    | 11, _ => rfl
    | 12, _ => rfl
    | 13, _ => rfl
    | 14, _ => rfl
  rw [this] at h
  exact (Option.some.inj h).symm
theorem tb_get {k : Nat} (h : k < 15) : tbL[k]? = some (.tuple [.str (cN k), .int (cDf k)]) := by
  obtain ⟨d, hd⟩ : ∃ d, tbL[k]? = some d := ⟨_, List.getElem?_eq_getElem (show k < tbL.length from h)⟩
  rw [hd, (tb_at hd).2]
theorem tb_mem {d : D} (h : d ∈ tbL) : ∃ i < 15, d = .tuple [.str (cN i), .int (cDf i)] := by
  obtain ⟨i, hi⟩ := List.mem_iff_getElem?.mp h
  exact ⟨i, tb_at hi⟩
inductive R__law_l_table (K : PySem.W.Frag) (C : Str → Addr) (T : List (Addr × Str)) : FR
  | mk {g} : R__law_l_table K C T ⟨[], g⟩ (.rt (.list tbL) ⟨[], g⟩)
def t__law_l_table (K : PySem.W.Frag) (C : Str → Addr) (T : List (Addr × Str)) (E : XK) : TS :=
  (tSeq (tAsg (tLst (tCons (tTup (tCons (tC (.str "rows")) (tCons (tC (.int 2)) tNil))) (tCons (tTup (tCons (tC (.str "lamps")) (tCons (tC (.int 2)) tNil))) (tCons (tTup (tCons (tC (.str "crews")) (tCons (tC (.int 2)) tNil))) (tCons (tTup (tCons (tC (.str "work")) (tCons (tC (.int 4)) tNil))) (tCons (tTup (tCons (tC (.str "every")) (tCons (tC (.int 6)) tNil))) (tCons (tTup (tCons (tC (.str "early")) (tCons (tC (.int 12)) tNil))) (tCons (tTup (tCons (tC (.str "sync")) (tCons (tC (.int 3)) tNil))) (tCons (tTup (tCons (tC (.str "burst")) (tCons (tC (.int 2)) tNil))) (tCons (tTup (tCons (tC (.str "gap")) (tCons (tC (.int 6)) tNil))) tNil)))))))))) (gName 0))
    (tRet (tOp (rD2 K addOk addD) (tVar 0) (tLst (tCons (tTup (tCons (tC (.str "trips")) (tCons (tC (.int 1)) tNil))) (tCons (tTup (tCons (tC (.str "drift")) (tCons (tC (.int 2)) tNil))) (tCons (tTup (tCons (tC (.str "cloud")) (tCons (tC (.int 5)) tNil))) (tCons (tTup (tCons (tC (.str "most")) (tCons (tC (.int 9)) tNil))) (tCons (tTup (tCons (tC (.str "fixed")) (tCons (tC (.int 20)) tNil))) (tCons (tTup (tCons (tC (.str "spare")) (tCons (tC (.int 30)) tNil))) tNil))))))))))
theorem rd__law_l_table {g} : Run K E (t__law_l_table K C T E) ⟨[.unk], g⟩ (.rt (.list tbL) ⟨[.unk], g⟩) := by
  walk_at "s"
  refine run_rtle (s1 := ⟨[.dat (.list (tbL.take 9))], g⟩) (run_ret ?_) (Fo.le (by walk_at "fo"))
  refine Ev.to (ev_addL (xs := tbL.take 9) (ys := [.tuple [.str "trips", .int 1], .tuple [.str "drift", .int 2], .tuple [.str "cloud", .int 5], .tuple [.str "most", .int 9], .tuple [.str "fixed", .int 20], .tuple [.str "spare", .int 30]]) (s1 := ⟨[.dat (.list (tbL.take 9))], g⟩) (s2 := ⟨[.dat (.list (tbL.take 9))], g⟩) (ev_var rfl) ?_ (le_size (by decide))) rfl
  walk_at "ev"
/-! ### the first one that is refused -/
def badS (f : Nat → D) : Str := match badN f with
  | none => ""
  | some i => cN i
inductive R__law_l_first_bad (K : PySem.W.Frag) (C : Str → Addr) (T : List (Addr × Str)) : FR
  | mk {f g} (hn : ∀ i < 15, noScr (f i) = true) : R__law_l_first_bad K C T ⟨[.dat (aD f)], g⟩ (.rt (.str (badS f)) ⟨[.dat (aD f)], g⟩)
def t__law_l_first_bad (K : PySem.W.Frag) (C : Str → Addr) (T : List (Addr × Str)) (E : XK) : TS :=
  (tSeq (tAsg (tDisp [((tC (.str "rows")), (tC (.int 3))), ((tC (.str "lamps")), (tC (.int 4))), ((tC (.str "crews")), (tC (.int 4))), ((tC (.str "work")), (tC (.int 12))), ((tC (.str "every")), (tC (.int 12))), ((tC (.str "early")), (tC (.int 60))), ((tC (.str "sync")), (tC (.int 10))), ((tC (.str "burst")), (tC (.int 6))), ((tC (.str "gap")), (tC (.int 12)))]) (gName 1))
    (tSeq (tDrop (tBM K "dict" GdX.rUpd (tVar 1) (tCons (tDisp [((tC (.str "trips")), (tC (.int 3))), ((tC (.str "drift")), (tC (.int 5))), ((tC (.str "cloud")), (tC (.int 30))), ((tC (.str "most")), (tC (.int 100))), ((tC (.str "fixed")), (tC (.int 100))), ((tC (.str "spare")), (tC (.int 200)))]) tNil)))
    (tSeq (tFor (iSeq K (tCall (spF K (R__law_l_table K C T)) [] E tNil)) (gTup K 2 (gCons (gName 2) (gCons (gName 3) gNil))) (tSeq (tPar 4 5 (tCons (tDGet (tVar 0) (tVar 2)) (tCons (tIf (tTest (tOp (rD2 K inOk inD) (tVar 2) (tTup (tCons (tC (.str "early")) (tCons (tC (.str "trips")) (tCons (tC (.str "drift")) (tCons (tC (.str "cloud")) (tCons (tC (.str "most")) (tCons (tC (.str "fixed")) (tCons (tC (.str "spare")) tNil)))))))))) (tC (.int 0)) (tC (.int 1))) tNil)))
    (tIfS (tOr (tNot (tB (tCB (rIsi K) (tCons (tVar 4) (tCons (tC (.ty "int")) tNil))))) (tOr (tB (tCB (rIsi K) (tCons (tVar 4) (tCons (tC (.ty "bool")) tNil)))) (tNot (tTest (tChain (rD2 K ordOk leD) (rD2 K ordOk leD) (tVar 5) (tVar 4) (tDGet (tVar 1) (tVar 2))))))) (tRet (tVar 2)) tNext)))
    (tRet (tC (.str ""))))))
def mostP (n : Nat) : List (Key × D) := (List.range n).map fun i => (.inr (cN i), .int (cHi i))
def mostKV : List (D × D) := (List.range 15).map fun i => (.str (cN i), .int (cHi i))
theorem most_look : ∀ i < 15, dlook mostKV (.inr (cN i)) = some (.int (cHi i)) := by
  intro i hi
  match i, hi with
  | 0, _ => kernel_rfl
  | 1, _ => kernel_rfl
  | 2, _ => kernel_rfl
  | 3, _ => kernel_rfl
  | 4, _ => kernel_rfl
  | 5, _ => kernel_rfl
  | 6, _ => kernel_rfl
  | 7, _ => kernel_rfl
  | 8, _ => kernel_rfl
  | 9, _ => kernel_rfl
  | 10, _ => kernel_rfl
  | 11, _ => kernel_rfl
  | 12, _ => kernel_rfl
  | 13, _ => kernel_rfl
  | 14, _ => kernel_rfl
def zeroL : List Str := ["early", "trips", "drift", "cloud", "most", "fixed", "spare"]
theorem zero_at : ∀ i < 15, PyData.strOk (cN i) = true ∧ (if zeroL.contains (cN i) then (0 : Int) else 1) = cLo i := by
  intro i hi
  match i, hi with
  | 0, _ => decide +kernel
  | 1, _ => decide +kernel
  | 2, _ => decide +kernel
  | 3, _ => decide +kernel
  | 4, _ => decide +kernel
  | 5, _ => decide +kernel
  | 6, _ => decide +kernel
  | 7, _ => decide +kernel
  | 8, _ => decide +kernel
  | 9, _ => decide +kernel
  | 10, _ => decide +kernel
  | 11, _ => decide +kernel
  | 12, _ => decide +kernel
  | 13, _ => decide +kernel
  | 14, _ => decide +kernel
theorem inB_strs {s : Str} {ns : List Str} : inB (.str s) (.tuple (ns.map PyData.str)) = ns.contains s := by
  show (ns.map PyData.str).any (fun z => PyData.eqv z (.str s)) = _
  induction ns with
  | nil => rfl
  | cons n ns ih =>
    rw [List.map_cons, List.any_cons, ih, eqv_str, List.contains_cons]
    congr 1
    by_cases h : n = s
    · subst h; simp
    · have : ¬ s = n := fun z => h z.symm
      simp [h, this]
theorem rd__law_l_first_bad {f : Nat → D} {g} (hn : ∀ i < 15, noScr (f i) = true) : Run K E (t__law_l_first_bad K C T E) ⟨[.dat (aD f), .unk, .unk, .unk, .unk, .unk], g⟩ (.rt (.str (badS f)) ⟨[.dat (aD f), .unk, .unk, .unk, .unk, .unk], g⟩) := by
  apply run_seq
  · apply run_asgO
    apply eo_disp (ps := mostP 9)
    · walk_at "eps"
    · decide
  walk_at "d"
  apply run_seq
  · apply run_upd (i := 1) (ov := none) (ov' := none) (ds := dmerge [] (mostP 9)) (ds' := dmerge [] (mostP 9)) (ps := (mostP 15).drop 9) rfl
    · show EvPs K _ _ [(.inr (cN 9), .int (cHi 9)), (.inr (cN 10), .int (cHi 10)), (.inr (cN 11), .int (cHi 11)), (.inr (cN 12), .int (cHi 12)), (.inr (cN 13), .int (cHi 13)), (.inr (cN 14), .int (cHi 14))] _
      exact ep_consS ev_int (ep_consS ev_int (ep_consS ev_int (ep_consS ev_int (ep_consS ev_int (ep_consS ev_int ep_nil)))))
    · decide
    · rfl
    · exact le_size (by decide +kernel)
    · have : ((mostP 15).drop 9).map (·.1) = (["trips", "drift", "cloud", "most", "fixed", "spare"] : List Str).map Sum.inr := by kernel_rfl
      rw [this]
      decide +kernel
  walk_at "d"
  rw [show dmerge (dmerge [] (mostP 9)) ((mostP 15).drop 9) = mostKV by kernel_rfl]
  refine run_frzD (i := 1) (ov := none) (ds := mostKV) rfl ?_
  walk_at "d"
  have body : ∀ j, j < 15 → ∃ tt, EvT K tt ⟨[.dat (aD f), .dat (.dict mostKV), .dat (.str (cN j)), .dat (.int (cDf j)), .dat (f j), .dat (.int (cLo j))], g⟩ (!good (f j) j) ⟨[.dat (aD f), .dat (.dict mostKV), .dat (.str (cN j)), .dat (.int (cDf j)), .dat (f j), .dat (.int (cLo j))], g⟩ ∧
      tt = tOr (tNot (tB (tCB (rIsi K) (tCons (tVar 4) (tCons (tC (.ty "int")) tNil))))) (tOr (tB (tCB (rIsi K) (tCons (tVar 4) (tCons (tC (.ty "bool")) tNil)))) (tNot (tTest (tChain (rD2 K ordOk leD) (rD2 K ordOk leD) (tVar 5) (tVar 4) (tDGet (tVar 1) (tVar 2)))))) := by
    intro j hj
    refine ⟨_, ?_, rfl⟩
    have nz := hn j hj
    cases hv : f j with
    | int n =>
      refine (et_or (a := false) (et_not (b := true) (et_B (ev_isi (ev_var rfl) kit_int (by rw [← hv]; exact nz) _ rfl))) fun _ => et_or (a := false) (et_B (ev_isi (ev_var rfl) kit_bool (by rw [← hv]; exact nz) _ rfl)) fun _ => et_not (et_test (ev_chainI (ev_var rfl) (ev_var rfl) (ev_dget (k := .inr (cN j)) (ev_var rfl) (ev_var rfl) (most_look j hj))))).to ?_
      rfl
    | bool b => exact (et_or (a := false) (b := true) (et_not (b := true) (et_B (ev_isi (ev_var rfl) kit_int (by rw [← hv]; exact nz) _ rfl))) fun _ => et_orT (et_B (ev_isi (ev_var rfl) kit_bool (by rw [← hv]; exact nz) _ rfl))).to rfl
    | none => exact et_orT ((et_not (b := false) (et_B (ev_isi (ev_var rfl) kit_int (by rw [← hv]; exact nz) _ rfl))).to rfl)
    | str b => exact et_orT ((et_not (b := false) (et_B (ev_isi (ev_var rfl) kit_int (by rw [← hv]; exact nz) _ rfl))).to rfl)
    | list b => exact et_orT ((et_not (b := false) (et_B (ev_isi (ev_var rfl) kit_int (by rw [← hv]; exact nz) _ rfl))).to rfl)
    | tuple b => exact et_orT ((et_not (b := false) (et_B (ev_isi (ev_var rfl) kit_int (by rw [← hv]; exact nz) _ rfl))).to rfl)
    | dict b => exact et_orT ((et_not (b := false) (et_B (ev_isi (ev_var rfl) kit_int (by rw [← hv]; exact nz) _ rfl))).to rfl)
  have turn : ∀ j, j < 15 → ∃ s2, Tg K (gTup K 2 (gCons (gName 2) (gCons (gName 3) gNil))) ⟨[.dat (aD f), .dat (.dict mostKV), .unk, .unk, .unk, .unk], g⟩ (.tuple [.str (cN j), .int (cDf j)]) s2 ∧ s2 = ⟨[.dat (aD f), .dat (.dict mostKV), .dat (.str (cN j)), .dat (.int (cDf j)), .unk, .unk], g⟩ := fun j hj => ⟨_, tg_tup (tg_cons tg_name (tg_cons tg_name tg_nil)) rfl, rfl⟩
  have par : ∀ j, j < 15 → Run K E (tPar 4 5 (tCons (tDGet (tVar 0) (tVar 2)) (tCons (tIf (tTest (tOp (rD2 K inOk inD) (tVar 2) (tTup (tCons (tC (.str "early")) (tCons (tC (.str "trips")) (tCons (tC (.str "drift")) (tCons (tC (.str "cloud")) (tCons (tC (.str "most")) (tCons (tC (.str "fixed")) (tCons (tC (.str "spare")) tNil)))))))))) (tC (.int 0)) (tC (.int 1))) tNil)))
      ⟨[.dat (aD f), .dat (.dict mostKV), .dat (.str (cN j)), .dat (.int (cDf j)), .unk, .unk], g⟩ (.nx ⟨[.dat (aD f), .dat (.dict mostKV), .dat (.str (cN j)), .dat (.int (cDf j)), .dat (f j), .dat (.int (cLo j))], g⟩) := by
    intro j hj
    obtain ⟨z1, z2⟩ := zero_at j hj
    refine run_parX (s1 := ⟨[.dat (aD f), .dat (.dict mostKV), .dat (.str (cN j)), .dat (.int (cDf j)), .unk, .unk], g⟩) (x1 := .dat (f j)) (x2 := .dat (.int (cLo j))) ?_
    refine ex_dat (s1 := ⟨[.dat (aD f), .dat (.dict mostKV), .dat (.str (cN j)), .dat (.int (cDf j)), .unk, .unk], g⟩) ?_ (ex_dat ?_ ex_nil)
    · exact ev_dget (k := .inr (cN j)) (ds := aKV f) (ev_var rfl) (ev_var rfl) (look_a j hj)
    have tst : EvT K (tTest (tOp (rD2 K inOk inD) (tVar 2) (tTup (tCons (tC (.str "early")) (tCons (tC (.str "trips")) (tCons (tC (.str "drift")) (tCons (tC (.str "cloud")) (tCons (tC (.str "most")) (tCons (tC (.str "fixed")) (tCons (tC (.str "spare")) tNil)))))))))) ⟨[.dat (aD f), .dat (.dict mostKV), .dat (.str (cN j)), .dat (.int (cDf j)), .unk, .unk], g⟩ (zeroL.contains (cN j)) ⟨[.dat (aD f), .dat (.dict mostKV), .dat (.str (cN j)), .dat (.int (cDf j)), .unk, .unk], g⟩ :=
      (et_test (ev_inT (x := .str (cN j)) (y := .tuple (zeroL.map PyData.str)) (ev_var rfl) (ev_tup (ea_cons ev_str (ea_cons ev_str (ea_cons ev_str (ea_cons ev_str (ea_cons ev_str (ea_cons ev_str (ea_cons ev_str ea_nil))))))) (le_size (by simp [zeroL]))) ⟨(sh_str (n := 0) z1).ok (by decide), by kernel_rfl⟩)).to inB_strs
    rw [← z2]
    by_cases c : zeroL.contains (cN j) = true
    · rw [if_pos c]
      exact ev_ifT (tst.to c) ev_int
    · rw [if_neg c]
      exact ev_ifF (tst.to (by simpa using c)) ev_int
  cases hb : badN f with
  | none =>
    have hg := bad_none hb
    rw [show badS f = "" by unfold badS; rw [hb]]
    refine run_seq (run_forG (fun _ => ⟨[.dat (aD f), .dat (.dict mostKV), .unk, .unk, .unk, .unk], g⟩) 15 (it_seq (ev_call (ds := []) ea_nil .mk) rfl) (SLe.refl _) (by decide) (fun j d hj hd => ?_) (.inl ⟨rfl, rfl⟩)) (run_rtle (run_ret ev_str) (Fo.le (by walk_at "fo")))
    · obtain ⟨g1, rfl⟩ := tb_at hd
      obtain ⟨s2, t1, t2⟩ := turn j g1
      subst t2
      obtain ⟨tt, b1, b2⟩ := body j g1
      subst b2
      refine ⟨_, t1, run_seq (par j g1) (run_le (run_no (b1.to (by rw [hg j g1]; rfl)) run_next) (Fo.le (by walk_at "fo")))⟩
  | some i =>
    obtain ⟨b1, b2, b3⟩ := bad_some hb
    have e : badS f = cN i := by unfold badS; rw [hb]
    rw [e]
    refine run_end (run_forG (fun _ => ⟨[.dat (aD f), .dat (.dict mostKV), .unk, .unk, .unk, .unk], g⟩) i (it_seq (ev_call (ds := []) ea_nil .mk) rfl) (SLe.refl _) (Nat.le_of_lt b1) (fun j d hj hd => ?_) (.inr ⟨_, _, .rt (.str (cN i)) ⟨[.dat (aD f), .unk, .unk, .unk, .unk, .unk], g⟩, tb_get b1, (turn i b1).choose_spec.1, ?_, rfl, rfl⟩)) rfl
    · obtain ⟨g1, rfl⟩ := tb_at hd
      obtain ⟨s2, t1, t2⟩ := turn j g1
      subst t2
      obtain ⟨tt, c1, c2⟩ := body j g1
      subst c2
      refine ⟨_, t1, run_seq (par j g1) (run_le (run_no (c1.to (by rw [b3 j hj]; rfl)) run_next) (Fo.le (by walk_at "fo")))⟩
    · rw [(turn i b1).choose_spec.2]
      obtain ⟨tt, c1, c2⟩ := body i b1
      subst c2
      exact run_rtle (run_seq (par i b1) (run_yes (c1.to (by rw [b2]; rfl)) (run_ret (ev_var rfl)))) (Fo.le (by walk_at "fo"))
/-! ### values of any kind -/
def oddL (n : Int) : List D := [.none, .bool true, .bool false, .int (-1 - n), .int ((10 : Int) ^ (40 : Nat) + n), .str "", .str "A", .str "abcdefghi", .str "all", .tuple [], .list [], .dict [], .tuple [.tuple []], .list [.int n], .dict [(.str "a", .int n)]] ++ [.tuple [.none, .int n], .str "a b", .tuple [.str "a"], .tuple [.tuple [.str "a", .int 1]], .str "none", .list [.list []], .dict [(.str "copies", .int 1)]]
inductive R__law_odd_values (K : PySem.W.Frag) (C : Str → Addr) (T : List (Addr × Str)) : FR
  | mk {v d n g} (hd : DOk n d) (hn : n < 100000) : R__law_odd_values K C T ⟨[.res (lstR K (some v) (dl d))], g⟩ (.rt (.list (oddL (rv d 1000))) ⟨[.res (lstR K (some v) (dl (CM.rd d 1000)))], g⟩)
def t__law_odd_values (K : PySem.W.Frag) (C : Str → Addr) (T : List (Addr × Str)) (E : XK) : TS :=
  (tSeq (tAsg (tCall (spF K (R__law_roll K C T)) [] E (tCons (tVar 0) (tCons (tC (.int 1000)) tNil))) (gName 1))
    (tSeq (tAsg (tLst (tCons (tC .non) (tCons (tC (.bl true)) (tCons (tC (.bl false)) (tCons (tOp (rD2 K subOk subD) (tUn (rD1 K negOk negD) (tC (.int 1))) (tVar 1)) (tCons (tOp (rD2 K addOk addD) (tOp (rD2 K powOk powD) (tC (.int 10)) (tC (.int 40))) (tVar 1)) (tCons (tC (.str "")) (tCons (tC (.str "A")) (tCons (tC (.str "abcdefghi")) (tCons (tC (.str "all")) (tCons (tTup tNil) (tCons (tLst tNil) (tCons tDNewK (tCons (tTup (tCons (tTup tNil) tNil)) (tCons (tLst (tCons (tVar 1) tNil)) (tCons (tDisp [((tC (.str "a")), (tVar 1))]) tNil)))))))))))))))) (gName 2))
    (tRet (tOp (rD2 K addOk addD) (tVar 2) (tLst (tCons (tTup (tCons (tC .non) (tCons (tVar 1) tNil))) (tCons (tC (.str "a b")) (tCons (tTup (tCons (tC (.str "a")) tNil)) (tCons (tTup (tCons (tTup (tCons (tC (.str "a")) (tCons (tC (.int 1)) tNil))) tNil)) (tCons (tC (.str "none")) (tCons (tLst (tCons (tLst tNil) tNil)) (tCons (tDisp [((tC (.str "copies")), (tC (.int 1)))]) tNil))))))))))))
theorem eo_dnew {s : S} : EvO K tDNewK s (dctR K none []) s := fun σ H F fp e Q q p hp =>
  cell_new (x := dctC K []) rfl e (Step.refl _ _ _) hp ⟨[], rfl, .nil⟩ q
theorem rd__law_odd_values {v : V} {d : Dice} {n : Int} {g} (hd : DOk n d) (hn : n < 100000) :
    Run K E (t__law_odd_values K C T E) ⟨[.res (lstR K (some v) (dl d)), .unk, .unk], g⟩ (.rt (.list (oddL (rv d 1000))) ⟨[.res (lstR K (some v) (dl (CM.rd d 1000))), .unk, .unk], g⟩) := by
  apply run_seq
  · exact run_asg (ev_rollD (d0 := d) (d := d) (n := n) rfl ev_int rfl hd (by omega) (by decide) (by decide) rfl)
  walk_at "d"
  generalize rv d 1000 = m
  generalize CM.rd d 1000 = D2
  apply run_seq
  · exact run_asg (ev_lst (ea_cons ev_non (ea_cons ev_bl (ea_cons ev_bl (ea_cons (ev_subI (ev_negI ev_int) (ev_var rfl)) (ea_cons (ev_addI (ev_powI (a := 10) (b := 40) ev_int ev_int ⟨by decide, by decide, by decide⟩) (ev_var rfl)) (ea_cons ev_str (ea_cons ev_str (ea_cons ev_str (ea_cons ev_str (ea_cons (ev_tup ea_nil (Nat.zero_le _)) (ea_cons (ev_lst ea_nil (Nat.zero_le _)) (ea_cons (ev_dictO eo_dnew) (ea_cons (ev_tup (ea_cons (ev_tup ea_nil (Nat.zero_le _)) ea_nil) (le_size (by simp))) (ea_cons (ev_lst (ea_cons (ev_var rfl) ea_nil) (le_size (by simp))) (ea_cons (ev_dictO (eo_disp (ep_consS (ev_var rfl) ep_nil) (by simp))) ea_nil))))))))))))))) (le_size (by simp)))
  walk_at "d"
  refine run_rtle (s1 := ⟨[.res (lstR K (some v) (dl D2)), .dat (.int m), .dat (.list ((oddL m).take 15))], g⟩) (run_ret (Ev.to (ev_addL (xs := (oddL m).take 15) (ys := (oddL m).drop 15) (ev_var rfl) (ev_lst (ea_cons (ev_tup (ea_cons ev_non (ea_cons (ev_var rfl) ea_nil)) (le_size (by simp))) (ea_cons ev_str (ea_cons (ev_tup (ea_cons ev_str ea_nil) (le_size (by simp))) (ea_cons (ev_tup (ea_cons (ev_tup (ea_cons ev_str (ea_cons ev_int ea_nil)) (le_size (by simp))) ea_nil) (le_size (by simp))) (ea_cons ev_str (ea_cons (ev_lst (ea_cons (ev_lst ea_nil (Nat.zero_le _)) ea_nil) (le_size (by simp))) (ea_cons (ev_dictO (eo_disp (ep_consS ev_int ep_nil) (by simp))) ea_nil))))))) (le_size (by simp [oddL]))) (le_size (by simp [oddL]))) (by rw [List.take_append_drop]))) (Fo.le (by walk_at "fo"))
theorem odd_ok {n : Int} : ∀ x ∈ oddL n, noScr x = true := by
  intro x hx
  simp only [oddL, List.cons_append, List.nil_append, List.mem_cons, List.not_mem_nil, or_false] at hx
  rcases hx with rfl | rfl | rfl | rfl | rfl | rfl | rfl | rfl | rfl | rfl | rfl | rfl | rfl | rfl | rfl | rfl | rfl | rfl | rfl | rfl | rfl | rfl <;> rfl
/-! ### what plans of choices come to -/
def rowD (p : PL) : D := .tuple (rowL p)
theorem pl_small {p : PL} (ok : POk p) : ∀ x ∈ (List.range 15).map (plGet p), 0 ≤ x ∧ x ≤ 200 := by
  intro x hx
  obtain ⟨i, hi, rfl⟩ := List.mem_map.mp hx
  have hi' := List.mem_range.mp hi
  obtain ⟨o1, o2⟩ := ok_get ok i hi'
  have b : ∀ j < 15, 0 ≤ (bdT.getD j ("", 0, 0)).2.1 ∧ (bdT.getD j ("", 0, 0)).2.2 ≤ 200 := by decide +kernel
  have := b i hi'
  omega
theorem int_shown {z : Int} (h : 0 ≤ z ∧ z ≤ 200) : (PyData.shown (.int z)).length ≤ 8 := by
  show (Str.ofString (toString z)).length ≤ 8
  have e := int_text_length_le10 (a := z) (k := 3) (by decide) (by omega)
  rw [PySem.ofString_length]
  omega
theorem ints_shown : ∀ {l : List Int}, (∀ x ∈ l, 0 ≤ x ∧ x ≤ 200) → (((PyData.shownAll (l.map PyData.int)).map (·.length)).sum ≤ 8 * l.length ∧ (PyData.shownAll (l.map PyData.int)).length = l.length ∧ PyData.showableAll (l.map PyData.int) = true ∧ PyData.hasDictAll (l.map PyData.int) = false)
  | [], _ => ⟨by decide, rfl, rfl, rfl⟩
  | z :: l, h => by
    obtain ⟨a, b, c, d⟩ := ints_shown (l := l) fun x hx => h x (List.mem_cons_of_mem _ hx)
    have hz := h z List.mem_cons_self
    have e := int_shown hz
    refine ⟨?_, ?_, ?_, ?_⟩
    · show (PyData.shown (.int z)).length + ((PyData.shownAll (l.map PyData.int)).map (·.length)).sum ≤ 8 * (l.length + 1)
      omega
    · show (PyData.shownAll (l.map PyData.int)).length + 1 = l.length + 1
      omega
    · show (decide (z.natAbs.log2 < 1920) && PyData.showableAll (l.map PyData.int)) = true
      rw [c, Bool.and_true]
      refine decide_eq_true ?_
      have : z.natAbs ≤ 200 := by omega
      exact Nat.lt_of_le_of_lt (Nat.log2_le_self _) (by omega)
    · show (false || PyData.hasDictAll (l.map PyData.int)) = false
      rw [d]; rfl
theorem depth_ints : ∀ l : List Int, PyData.depthAll (l.map PyData.int) ≤ 1
  | [] => by decide
  | z :: l => by
    have := depth_ints l
    simp only [List.map_cons, PyData.depthAll, PyData.depth]
    omega
theorem row_repr {p : PL} (ok : POk p) : reprOk [rowD p] := by
  obtain ⟨a, b, c, d⟩ := ints_shown (pl_small ok)
  have l15 : ((List.range 15).map (plGet p)).length = 15 := by simp
  rw [l15] at a b
  have dp := depth_ints ((List.range 15).map (plGet p))
  refine ⟨row_ok p, ?_, ?_, ?_, ?_⟩
  · exact c
  · exact d
  · show PyData.depth (.tuple (((List.range 15).map (plGet p)).map PyData.int)) ≤ 20
    simp only [PyData.depth]; omega
  · refine Nat.le_trans (tupleText_len_le _) ?_
    have : (PyData.shownAll (rowL p)) = PyData.shownAll (((List.range 15).map (plGet p)).map PyData.int) := rfl
    rw [this, b]
    exact le_size (by omega)
theorem list_repr {p : PL} (ok : POk p) : reprOk [.list (rowL p)] := by
  obtain ⟨a, b, c, d⟩ := ints_shown (pl_small ok)
  have l15 : ((List.range 15).map (plGet p)).length = 15 := by simp
  rw [l15] at a b
  have dp := depth_ints ((List.range 15).map (plGet p))
  refine ⟨by rw [row_ints]; exact okL _, ?_, ?_, ?_, ?_⟩
  · exact c
  · exact d
  · show PyData.depth (.list (((List.range 15).map (plGet p)).map PyData.int)) ≤ 20
    simp only [PyData.depth]; omega
  · refine Nat.le_trans (listText_len_le _) ?_
    have : (PyData.shownAll (rowL p)) = PyData.shownAll (((List.range 15).map (plGet p)).map PyData.int) := rfl
    rw [this, b]
    exact le_size (by omega)
end K11

namespace K11
open PySem PySem.Spec PyProof.Rows L2 DL KwX GdX CM
variable {P : Program} {w : World} {K : PySem.W.Frag} {C : Str → Addr} {T : List (Addr × Str)} {E : XK}
/-- what a plan of some choices comes to -/
def dueS (f : Nat → D) : Str := match badN f with
  | none => (PyData.tuple ((List.range 15).map f)).shown
  | some i => cN i
theorem rng_map (f : Nat → D) : (List.range 15).map f = [f 0, f 1, f 2, f 3, f 4, f 5, f 6, f 7, f 8, f 9, f 10, f 11, f 12, f 13, f 14] := rfl
theorem row_of {f : Nat → D} {p : PL} (h : ∀ i < 15, f i = .int (plGet p i)) : (List.range 15).map f = rowL p := by
  rw [row_ints, List.map_map]
  exact List.map_congr_left fun i hi => h i (List.mem_range.mp hi)
theorem due_pl {f : Nat → D} {p : PL} (hb : badN f = none) (h : ∀ i < 15, f i = .int (plGet p i)) : dueS f = (rowD p).shown := by
  unfold dueS
  rw [hb]
  show (PyData.tuple _).shown = _
  rw [row_of h]
  rfl
theorem due_bad {f : Nat → D} {i : Nat} (hb : badN f = some i) : dueS f = cN i := by unfold dueS; rw [hb]
theorem tb_loop {vs1 vs2 k : Nat} {f : Nat → D} {s : S} {te : TE} (hr : NoRes s [vs1, vs2]) (hne : vs1 ≠ vs2) (hk : k ≠ vs1 ∧ k ≠ vs2) (h : s.s[k]? = some (.dat (aD f))) (h1 : ∀ x y, SLe ((((s.wipe [vs1, vs2]).set vs1 x).set vs2 y).wipe [vs1, vs2]) (s.wipe [vs1, vs2]))
    (hd : ∀ j < 15, ∀ s2, s2 = (((s.wipe [vs1, vs2]).set vs1 (.dat (.str (cN j)))).set vs2 (.dat (.int (cDf j)))) → Ev K te s2 (f j) s2)
    (hc : ∀ {s : S}, Ev K (tCall (spF K (R__law_l_table K C T)) [] E tNil) s (.list tbL) s) :
    Ev K (tLc (iSeq K (tCall (spF K (R__law_l_table K C T)) [] E tNil)) (gTup K 2 (gCons (gName vs1) (gCons (gName vs2) gNil))) tYes te [vs1, vs2]) s (.list ((List.range 15).map f)) s := by
  refine Ev.to (ev_lcM (fun d => match d with | .tuple [.str n, .int _] => (dlook (aKV f) (.inr n)).getD .none | _ => .none) (it_seq hc rfl) (le_size (by decide)) hr fun d hd' => ?_) ?_
  · obtain ⟨i, hi, rfl⟩ := tb_mem hd'
    refine ⟨_, tv_tup (tv_cons (tv_name (by simp)) (tv_cons (tv_name (by simp)) tv_nil)) rfl, h1 _ _, ?_⟩
    refine Ev.to (hd i hi _ rfl) ?_
    show _ = (dlook (aKV f) (.inr (cN i))).getD .none
    rw [look_a i hi]
    rfl
  · have : (tbL.map fun d => match d with | .tuple [.str n, .int _] => (dlook (aKV f) (.inr n)).getD .none | _ => .none) = (List.range 15).map f := by kernel_rfl
    rw [this]
inductive R__law_due (K : PySem.W.Frag) (C : Str → Addr) (T : List (Addr × Str)) : FR
  | mk {f g} (hn : ∀ i < 15, noScr (f i) = true) : R__law_due K C T ⟨[.dat (aD f)], g⟩ (.rt (.str (dueS f)) ⟨[.dat (aD f)], g⟩)
def t__law_due (K : PySem.W.Frag) (C : Str → Addr) (T : List (Addr × Str)) (E : XK) : TS :=
  (tSeq (tAsg (tCall (spF K (R__law_l_first_bad K C T)) [] E (tCons (tVar 0) tNil)) (gName 1))
    (tRet (tIf (tTest (tOp (rD2 K eqOk neD) (tVar 1) (tC (.str "")))) (tVar 1) (tCB (rDn K GdX.reprOk GdX.reprD) (tCons (tCB (rDn K seqOk tupD) (tCons (tLc (iSeq K (tCall (spF K (R__law_l_table K C T)) [] E tNil)) (gTup K 2 (gCons (gName 2) (gCons (gName 3) gNil))) tYes (tDGet (tVar 0) (tVar 2)) [2, 3]) tNil)) tNil)))))
theorem cn_ne : ∀ i < 15, (cN i = "") = False := by
  intro i hi
  have : ∀ j < 15, decide (cN j = "") = false := by decide +kernel
  exact eq_false (by simpa using this i hi)
theorem rd__law_due {f : Nat → D} {g} (hn : ∀ i < 15, noScr (f i) = true) : Run K E (t__law_due K C T E) ⟨[.dat (aD f), .unk, .unk, .unk], g⟩ (.rt (.str (dueS f)) ⟨[.dat (aD f), .unk, .unk, .unk], g⟩) := by
  apply run_seq
  · exact run_asg (ev_call (ea_cons (ev_var rfl) ea_nil) (.mk hn))
  walk_at "d"
  have okE : PyData.strOk ("" : Str) = true := by decide +kernel
  refine run_rtle (s1 := ⟨[.dat (aD f), .dat (.str (badS f)), .unk, .unk], g⟩) (run_ret ?_) (Fo.le (by walk_at "fo"))
  cases hb : badN f with
  | some i =>
    obtain ⟨b1, _, _⟩ := bad_some hb
    have e : badS f = cN i := by unfold badS; rw [hb]
    rw [e, due_bad hb]
    refine ev_ifT (EvT.to (et_test (ev_neSS (a := cN i) (b := "") (ev_var rfl) ev_str (zero_at i b1).1 okE)) ?_) (ev_var rfl)
    simp [cn_ne i b1]
  | none =>
    have e : badS f = "" := by unfold badS; rw [hb]
    obtain ⟨p, ok, e1, e2, e3⟩ := bad_pl hb
    rw [e, due_pl hb e3]
    refine ev_ifF (EvT.to (et_test (ev_neSS (a := "") (b := "") (ev_var rfl) ev_str okE okE)) (by simp)) ?_
    refine ev_repr (d := rowD p) (ev_tupL (ds := rowL p) ?_) (row_repr ok)
    rw [← row_of e3]
    refine tb_loop (k := 0) (f := f) (by walk_at "nr") (by decide) (by decide) rfl (fun x y => Fo.le (by walk_at "fo")) (fun j hj s2 e => ?_) (ev_call (ds := []) ea_nil .mk)
    subst e
    exact ev_dget (k := .inr (cN j)) (ds := aKV f) (ev_var rfl) (ev_var rfl) (look_a j hj)
inductive R__law_is_own (K : PySem.W.Frag) (C : Str → Addr) (T : List (Addr × Str)) : FR
  | mk {p g} (ok : POk p) : R__law_is_own K C T ⟨[.dat (plO C p), .dat (plD p)], g⟩ (.rt (.bool true) ⟨[.dat (plO C p), .dat (plD p)], g⟩)
def t__law_is_own (K : PySem.W.Frag) (C : Str → Addr) (T : List (Addr × Str)) (E : XK) : TS :=
  (tSeq (tAsg (tLst (tCons (tFld K (tVar 0) "rows") (tCons (tFld K (tVar 0) "lamps") (tCons (tFld K (tVar 0) "crews") (tCons (tFld K (tVar 0) "work") (tCons (tFld K (tVar 0) "every") (tCons (tFld K (tVar 0) "early") (tCons (tFld K (tVar 0) "sync") (tCons (tFld K (tVar 0) "burst") (tCons (tFld K (tVar 0) "gap") (tCons (tFld K (tVar 0) "trips") tNil))))))))))) (gName 2))
    (tSeq (tAsg (tOp (rD2 K addOk addD) (tVar 2) (tLst (tCons (tFld K (tVar 0) "drift") (tCons (tFld K (tVar 0) "cloud") (tCons (tFld K (tVar 0) "most") (tCons (tFld K (tVar 0) "fixed") (tCons (tFld K (tVar 0) "spare") tNil))))))) (gName 2))
    (tRet (tOp (rD2 K eqOk eqD) (tCB (rDn K GdX.reprOk GdX.reprD) (tCons (tVar 2) tNil)) (tCB (rDn K GdX.reprOk GdX.reprD) (tCons (tLc (iSeq K (tCall (spF K (R__law_l_table K C T)) [] E tNil)) (gTup K 2 (gCons (gName 3) (gCons (gName 4) gNil))) tYes (tDGet (tVar 1) (tVar 3)) [3, 4]) tNil))))))
theorem rd__law_is_own {p : PL} {g} (hk : Pk P w K C) (ok : POk p) : Run K E (t__law_is_own K C T E) ⟨[.dat (plO C p), .dat (plD p), .unk, .unk, .unk], g⟩ (.rt (.bool true) ⟨[.dat (plO C p), .dat (plD p), .unk, .unk, .unk], g⟩) := by
  walk_at "s"
  apply run_seq
  · refine run_asg (d := .list (rowL p)) (s1 := ⟨[.dat (plO C p), .dat (plD p), .dat (.list ((rowL p).take 10)), .unk, .unk], g⟩) ?_
    refine Ev.to (ev_addL (s1 := ⟨[.dat (plO C p), .dat (plD p), .dat (.list ((rowL p).take 10)), .unk, .unk], g⟩) (xs := (rowL p).take 10) (ys := [.int p.drift, .int p.cloud, .int p.most, .int p.fixed, .int p.spare]) (ev_var rfl) ?_ (le_size (by show 10 + 5 ≤ _; decide))) rfl
    walk_at "ev"
  walk_at "d"
  have so : PyData.strOk (PyData.list (rowL p)).shown = true := by rw [row_ints]; exact sok_lstI _
  refine run_rtle (s1 := ⟨[.dat (plO C p), .dat (plD p), .dat (.list (rowL p)), .unk, .unk], g⟩) (run_ret ?_) (Fo.le (by walk_at "fo"))
  refine Ev.to (ev_eqT (x := .str (PyData.list (rowL p)).shown) (y := .str (PyData.list (rowL p)).shown) (s1 := ⟨[.dat (plO C p), .dat (plD p), .dat (.list (rowL p)), .unk, .unk], g⟩) (ev_repr (ev_var rfl) (list_repr ok)) (ev_repr ?_ (list_repr ok)) ⟨(sh_str (n := 0) so).ok (by decide), (sh_str (n := 0) so).ok (by decide)⟩) ?_
  · have e : (List.range 15).map (pF p) = rowL p := rfl
    rw [← e]
    refine tb_loop (k := 1) (f := pF p) (by walk_at "nr") (by decide) (by decide) rfl (fun x y => Fo.le (by walk_at "fo")) (fun j hj s2 e => ?_) (ev_call (ds := []) ea_nil .mk)
    subst e
    exact ev_dget (k := .inr (cN j)) (ds := aKV (pF p)) (ev_var rfl) (ev_var rfl) (look_a j hj)
  · rw [eqv_str]; simp
end K11

namespace K11
open PySem PySem.Spec PyProof.Rows L2 DL KwX GdX CM
variable {P : Program} {w : World} {K : PySem.W.Frag} {C : Str → Addr} {T : List (Addr × Str)} {E : XK}
theorem run_retT {tt : TT} {ta tb : TE} {s s1 : S} {o : Out} (ht : EvT K tt s true s1) (h : Run K E (tRet ta) s1 o) : Run K E (tRet (tIf tt ta tb)) s o := fun σ H F fp e Ed q =>
  ht σ H F fp e _ fun H1 F1 fp1 e1 st1 => h σ H1 F1 fp1 e1 Ed (q.step st1)
theorem run_retF {tt : TT} {ta tb : TE} {s s1 : S} {o : Out} (ht : EvT K tt s false s1) (h : Run K E (tRet tb) s1 o) : Run K E (tRet (tIf tt ta tb)) s o := fun σ H F fp e Ed q =>
  ht σ H F fp e _ fun H1 F1 fp1 e1 st1 => h σ H1 F1 fp1 e1 Ed (q.step st1)
inductive R__law_l_with (P : Program) (w : World) (K : PySem.W.Frag) (C : Str → Addr) (T : List (Addr × Str)) : FR
  | ok {p j v p' g} (hj : j < 15) (h : aKV (setF (pF p) j v) = plKV p') (ok : POk p') : R__law_l_with P w K C T ⟨[.dat (plO C p), .dat (.str (cN j)), .dat v], g⟩ (.rt (plO C p') ⟨[.dat (plO C p), .dat (.str (cN j)), .dat v], g⟩)
  | no {p j v i g} (hj : j < 15) (hn : noScr v = true) (hb : badN (setF (pF p) j v) = some i) : R__law_l_with P w K C T ⟨[.dat (plO C p), .dat (.str (cN j)), .dat v], g⟩ (.ex (C "BadPlan") "name" (.str (cN i)) ⟨[.dat (plO C p), .dat (.str (cN j)), .dat v], g⟩)
def t__law_l_with (P : Program) (w : World) (K : PySem.W.Frag) (C : Str → Addr) (T : List (Addr × Str)) (E : XK) : TS :=
  (tSeq (tIfS (tTest (tOp (rD2 K inOk inD) (tVar 1) (tTup (tCons (tC (.str "rows")) (tCons (tC (.str "lamps")) (tCons (tC (.str "crews")) (tCons (tC (.str "work")) tNil))))))) (tSeq (tIfS (tTest (tOp (rD2 K eqOk eqD) (tVar 1) (tC (.str "rows")))) (tRet (KwX.tMethKw (C "Plan") "changed" ["rows"] (spF K (R_Plan_changed P w K C T)) E (tVar 0) (tCons (tVar 2) tNil))) tNext)
    (tSeq (tIfS (tTest (tOp (rD2 K eqOk eqD) (tVar 1) (tC (.str "lamps")))) (tRet (KwX.tMethKw (C "Plan") "changed" ["lamps"] (spF K (R_Plan_changed P w K C T)) E (tVar 0) (tCons (tVar 2) tNil))) tNext)
    (tRet (tIf (tTest (tOp (rD2 K eqOk eqD) (tVar 1) (tC (.str "crews")))) (KwX.tMethKw (C "Plan") "changed" ["crews"] (spF K (R_Plan_changed P w K C T)) E (tVar 0) (tCons (tVar 2) tNil)) (KwX.tMethKw (C "Plan") "changed" ["work"] (spF K (R_Plan_changed P w K C T)) E (tVar 0) (tCons (tVar 2) tNil)))))) tNext)
    (tSeq (tIfS (tTest (tOp (rD2 K inOk inD) (tVar 1) (tTup (tCons (tC (.str "every")) (tCons (tC (.str "early")) (tCons (tC (.str "sync")) (tCons (tC (.str "burst")) tNil))))))) (tSeq (tIfS (tTest (tOp (rD2 K eqOk eqD) (tVar 1) (tC (.str "every")))) (tRet (KwX.tMethKw (C "Plan") "changed" ["every"] (spF K (R_Plan_changed P w K C T)) E (tVar 0) (tCons (tVar 2) tNil))) tNext)
    (tSeq (tIfS (tTest (tOp (rD2 K eqOk eqD) (tVar 1) (tC (.str "early")))) (tRet (KwX.tMethKw (C "Plan") "changed" ["early"] (spF K (R_Plan_changed P w K C T)) E (tVar 0) (tCons (tVar 2) tNil))) tNext)
    (tRet (tIf (tTest (tOp (rD2 K eqOk eqD) (tVar 1) (tC (.str "sync")))) (KwX.tMethKw (C "Plan") "changed" ["sync"] (spF K (R_Plan_changed P w K C T)) E (tVar 0) (tCons (tVar 2) tNil)) (KwX.tMethKw (C "Plan") "changed" ["burst"] (spF K (R_Plan_changed P w K C T)) E (tVar 0) (tCons (tVar 2) tNil)))))) tNext)
    (tSeq (tIfS (tTest (tOp (rD2 K inOk inD) (tVar 1) (tTup (tCons (tC (.str "gap")) (tCons (tC (.str "trips")) (tCons (tC (.str "drift")) (tCons (tC (.str "cloud")) tNil))))))) (tSeq (tIfS (tTest (tOp (rD2 K eqOk eqD) (tVar 1) (tC (.str "gap")))) (tRet (KwX.tMethKw (C "Plan") "changed" ["gap"] (spF K (R_Plan_changed P w K C T)) E (tVar 0) (tCons (tVar 2) tNil))) tNext)
    (tSeq (tIfS (tTest (tOp (rD2 K eqOk eqD) (tVar 1) (tC (.str "trips")))) (tRet (KwX.tMethKw (C "Plan") "changed" ["trips"] (spF K (R_Plan_changed P w K C T)) E (tVar 0) (tCons (tVar 2) tNil))) tNext)
    (tRet (tIf (tTest (tOp (rD2 K eqOk eqD) (tVar 1) (tC (.str "drift")))) (KwX.tMethKw (C "Plan") "changed" ["drift"] (spF K (R_Plan_changed P w K C T)) E (tVar 0) (tCons (tVar 2) tNil)) (KwX.tMethKw (C "Plan") "changed" ["cloud"] (spF K (R_Plan_changed P w K C T)) E (tVar 0) (tCons (tVar 2) tNil)))))) tNext)
    (tSeq (tIfS (tTest (tOp (rD2 K eqOk eqD) (tVar 1) (tC (.str "most")))) (tRet (KwX.tMethKw (C "Plan") "changed" ["most"] (spF K (R_Plan_changed P w K C T)) E (tVar 0) (tCons (tVar 2) tNil))) tNext)
    (tRet (tIf (tTest (tOp (rD2 K eqOk eqD) (tVar 1) (tC (.str "fixed")))) (KwX.tMethKw (C "Plan") "changed" ["fixed"] (spF K (R_Plan_changed P w K C T)) E (tVar 0) (tCons (tVar 2) tNil)) (KwX.tMethKw (C "Plan") "changed" ["spare"] (spF K (R_Plan_changed P w K C T)) E (tVar 0) (tCons (tVar 2) tNil))))))))
theorem cn_ok {j : Nat} (hj : j < 15) : PyData.strOk (cN j) = true := (zero_at j hj).1
theorem with_all {p : PL} {j : Nat} {v : D} {o : Out} {g} (hj : j < 15) (ho : o.ends = true)
    (leaf : ∀ nm : Str, nm = cN j → Run K E (tRet (KwX.tMethKw (C "Plan") "changed" [nm] (spF K (R_Plan_changed P w K C T)) E (tVar 0) (tCons (tVar 2) tNil))) ⟨[.dat (plO C p), .dat (.str (cN j)), .dat v], g⟩ o) :
    Run K E (t__law_l_with P w K C T E) ⟨[.dat (plO C p), .dat (.str (cN j)), .dat v], g⟩ o := by
  have eq : ∀ (x : Str) (b : Bool), PyData.strOk x = true → decide (cN j = x) = b → EvT K (tTest (tOp (rD2 K eqOk eqD) (tVar 1) (tC (.str x)))) ⟨[.dat (plO C p), .dat (.str (cN j)), .dat v], g⟩ b ⟨[.dat (plO C p), .dat (.str (cN j)), .dat v], g⟩ := fun x b hx e =>
    (et_test (ev_eqSS (a := cN j) (b := x) (ev_var rfl) ev_str (cn_ok hj) hx)).to e
  have inn : ∀ (a b c d : Str) (r : Bool), SeqAt.shaped (.tuple ([a, b, c, d].map PyData.str)) = true → [a, b, c, d].contains (cN j) = r → EvT K (tTest (tOp (rD2 K inOk inD) (tVar 1) (tTup (tCons (tC (.str a)) (tCons (tC (.str b)) (tCons (tC (.str c)) (tCons (tC (.str d)) tNil))))))) ⟨[.dat (plO C p), .dat (.str (cN j)), .dat v], g⟩ r ⟨[.dat (plO C p), .dat (.str (cN j)), .dat v], g⟩ := fun a b c d r hs e =>
    (et_test (ev_inT (x := .str (cN j)) (y := .tuple ([a, b, c, d].map PyData.str)) (ev_var rfl) (ev_tup (ea_cons ev_str (ea_cons ev_str (ea_cons ev_str (ea_cons ev_str ea_nil)))) (le_size (by simp))) ⟨(sh_str (n := 0) (cn_ok hj)).ok (by decide), hs⟩)).to (inB_strs.trans e)
  match j, hj with
  | 0, _ => exact run_end (run_yes (inn _ _ _ _ true (by kernel_rfl) (by decide +kernel)) (run_end (run_yes (eq _ true (by decide +kernel) (by decide +kernel)) (leaf _ rfl)) ho)) ho
  | 1, _ => exact run_end (run_yes (inn _ _ _ _ true (by kernel_rfl) (by decide +kernel)) (run_seq (run_no (eq _ false (by decide +kernel) (by decide +kernel)) run_next) (run_end (run_yes (eq _ true (by decide +kernel) (by decide +kernel)) (leaf _ rfl)) ho))) ho
  | 2, _ => exact run_end (run_yes (inn _ _ _ _ true (by kernel_rfl) (by decide +kernel)) (run_seq (run_no (eq _ false (by decide +kernel) (by decide +kernel)) run_next) (run_seq (run_no (eq _ false (by decide +kernel) (by decide +kernel)) run_next) (run_retT (eq _ true (by decide +kernel) (by decide +kernel)) (leaf _ rfl))))) ho
  | 3, _ => exact run_end (run_yes (inn _ _ _ _ true (by kernel_rfl) (by decide +kernel)) (run_seq (run_no (eq _ false (by decide +kernel) (by decide +kernel)) run_next) (run_seq (run_no (eq _ false (by decide +kernel) (by decide +kernel)) run_next) (run_retF (eq _ false (by decide +kernel) (by decide +kernel)) (leaf _ rfl))))) ho
  | 4, _ => exact run_seq (run_no (inn _ _ _ _ false (by kernel_rfl) (by decide +kernel)) run_next) (run_end (run_yes (inn _ _ _ _ true (by kernel_rfl) (by decide +kernel)) (run_end (run_yes (eq _ true (by decide +kernel) (by decide +kernel)) (leaf _ rfl)) ho)) ho)
  | 5, _ => exact run_seq (run_no (inn _ _ _ _ false (by kernel_rfl) (by decide +kernel)) run_next) (run_end (run_yes (inn _ _ _ _ true (by kernel_rfl) (by decide +kernel)) (run_seq (run_no (eq _ false (by decide +kernel) (by decide +kernel)) run_next) (run_end (run_yes (eq _ true (by decide +kernel) (by decide +kernel)) (leaf _ rfl)) ho))) ho)
  | 6, _ => exact run_seq (run_no (inn _ _ _ _ false (by kernel_rfl) (by decide +kernel)) run_next) (run_end (run_yes (inn _ _ _ _ true (by kernel_rfl) (by decide +kernel)) (run_seq (run_no (eq _ false (by decide +kernel) (by decide +kernel)) run_next) (run_seq (run_no (eq _ false (by decide +kernel) (by decide +kernel)) run_next) (run_retT (eq _ true (by decide +kernel) (by decide +kernel)) (leaf _ rfl))))) ho)
  | 7, _ => exact run_seq (run_no (inn _ _ _ _ false (by kernel_rfl) (by decide +kernel)) run_next) (run_end (run_yes (inn _ _ _ _ true (by kernel_rfl) (by decide +kernel)) (run_seq (run_no (eq _ false (by decide +kernel) (by decide +kernel)) run_next) (run_seq (run_no (eq _ false (by decide +kernel) (by decide +kernel)) run_next) (run_retF (eq _ false (by decide +kernel) (by decide +kernel)) (leaf _ rfl))))) ho)
  | 8, _ => exact run_seq (run_no (inn _ _ _ _ false (by kernel_rfl) (by decide +kernel)) run_next) (run_seq (run_no (inn _ _ _ _ false (by kernel_rfl) (by decide +kernel)) run_next) (run_end (run_yes (inn _ _ _ _ true (by kernel_rfl) (by decide +kernel)) (run_end (run_yes (eq _ true (by decide +kernel) (by decide +kernel)) (leaf _ rfl)) ho)) ho))
  | 9, _ => exact run_seq (run_no (inn _ _ _ _ false (by kernel_rfl) (by decide +kernel)) run_next) (run_seq (run_no (inn _ _ _ _ false (by kernel_rfl) (by decide +kernel)) run_next) (run_end (run_yes (inn _ _ _ _ true (by kernel_rfl) (by decide +kernel)) (run_seq (run_no (eq _ false (by decide +kernel) (by decide +kernel)) run_next) (run_end (run_yes (eq _ true (by decide +kernel) (by decide +kernel)) (leaf _ rfl)) ho))) ho))
  | 10, _ => exact run_seq (run_no (inn _ _ _ _ false (by kernel_rfl) (by decide +kernel)) run_next) (run_seq (run_no (inn _ _ _ _ false (by kernel_rfl) (by decide +kernel)) run_next) (run_end (run_yes (inn _ _ _ _ true (by kernel_rfl) (by decide +kernel)) (run_seq (run_no (eq _ false (by decide +kernel) (by decide +kernel)) run_next) (run_seq (run_no (eq _ false (by decide +kernel) (by decide +kernel)) run_next) (run_retT (eq _ true (by decide +kernel) (by decide +kernel)) (leaf _ rfl))))) ho))
  | 11, _ => exact run_seq (run_no (inn _ _ _ _ false (by kernel_rfl) (by decide +kernel)) run_next) (run_seq (run_no (inn _ _ _ _ false (by kernel_rfl) (by decide +kernel)) run_next) (run_end (run_yes (inn _ _ _ _ true (by kernel_rfl) (by decide +kernel)) (run_seq (run_no (eq _ false (by decide +kernel) (by decide +kernel)) run_next) (run_seq (run_no (eq _ false (by decide +kernel) (by decide +kernel)) run_next) (run_retF (eq _ false (by decide +kernel) (by decide +kernel)) (leaf _ rfl))))) ho))
  | 12, _ => exact run_seq (run_no (inn _ _ _ _ false (by kernel_rfl) (by decide +kernel)) run_next) (run_seq (run_no (inn _ _ _ _ false (by kernel_rfl) (by decide +kernel)) run_next) (run_seq (run_no (inn _ _ _ _ false (by kernel_rfl) (by decide +kernel)) run_next) (run_end (run_yes (eq _ true (by decide +kernel) (by decide +kernel)) (leaf _ rfl)) ho)))
  | 13, _ => exact run_seq (run_no (inn _ _ _ _ false (by kernel_rfl) (by decide +kernel)) run_next) (run_seq (run_no (inn _ _ _ _ false (by kernel_rfl) (by decide +kernel)) run_next) (run_seq (run_no (inn _ _ _ _ false (by kernel_rfl) (by decide +kernel)) run_next) (run_seq (run_no (eq _ false (by decide +kernel) (by decide +kernel)) run_next) (run_retT (eq _ true (by decide +kernel) (by decide +kernel)) (leaf _ rfl)))))
  | 14, _ => exact run_seq (run_no (inn _ _ _ _ false (by kernel_rfl) (by decide +kernel)) run_next) (run_seq (run_no (inn _ _ _ _ false (by kernel_rfl) (by decide +kernel)) run_next) (run_seq (run_no (inn _ _ _ _ false (by kernel_rfl) (by decide +kernel)) run_next) (run_seq (run_no (eq _ false (by decide +kernel) (by decide +kernel)) run_next) (run_retF (eq _ false (by decide +kernel) (by decide +kernel)) (leaf _ rfl)))))
theorem merge_one {p : PL} {j : Nat} {v : D} (hj : j < 15) : dmerge (plKV p) (toK [(cN j, v)]) = aKV (setF (pF p) j v) := by
  rw [← aKV_pl]
  exact put_a j hj
theorem rd__law_l_with_ok {p p' : PL} {j : Nat} {v : D} {g} (hj : j < 15) (h : aKV (setF (pF p) j v) = plKV p') (ok : POk p') :
    Run K E (t__law_l_with P w K C T E) ⟨[.dat (plO C p), .dat (.str (cN j)), .dat v], g⟩ (.rt (plO C p') ⟨[.dat (plO C p), .dat (.str (cN j)), .dat v], g⟩) :=
  with_all hj rfl fun nm e => by
    subst e
    exact run_ret (ev_methKw (ds := [v]) (ev_var rfl) pf_changed (ea_cons (ev_var rfl) ea_nil) rfl (.ok ((merge_one hj).trans h) ok (by show 1 ≤ 1000; decide)))
theorem set_scr {p : PL} {j : Nat} {v : D} (hn : noScr v = true) : ∀ i < 15, noScr (setF (pF p) j v i) = true := by
  intro i _
  unfold setF
  by_cases h : i = j
  · rw [if_pos h]; exact hn
  · rw [if_neg h]; rfl
theorem rd__law_l_with_no {p : PL} {i j : Nat} {v : D} {g} (hj : j < 15) (hn : noScr v = true) (hb : badN (setF (pF p) j v) = some i) :
    Run K E (t__law_l_with P w K C T E) ⟨[.dat (plO C p), .dat (.str (cN j)), .dat v], g⟩ (.ex (C "BadPlan") "name" (.str (cN i)) ⟨[.dat (plO C p), .dat (.str (cN j)), .dat v], g⟩) :=
  with_all hj rfl fun nm e => by
    subst e
    exact run_retX (er_methKw (ds := [v]) (ev_var rfl) pf_changed (ea_cons (ev_var rfl) ea_nil) rfl (.no (qs := aPs (setF (pF p) j v)) ((merge_one hj).trans aKV_kw) (a_nodup _) (a_self _) ⟨_, _, rfl⟩ (bad_a (set_scr hn) hb) (by show 1 ≤ 1000; decide) (by show 15 ≤ 1000; decide)))
/-! ### a value for a choice -/
def valL (p : PL) (j : Nat) (d : Dice) : List D := [pick (CM.rd d 1000) (oddL (rv d 1000)), .int (plGet p j), .int (rv (CM.rd (CM.rd d 1000) 22) 202), .int (rv (CM.rd (CM.rd (CM.rd d 1000) 22) 202) 14), .int (-1), .bool true, .int 0, .int 13, .int 101]
def valD (d : Dice) : Dice := CM.rd (CM.rd (CM.rd (CM.rd d 1000) 22) 202) 14
def valX (p : PL) (j : Nat) (d : Dice) : D := pick (valD d) (valL p j d)
theorem val_scr (p : PL) (j : Nat) (d : Dice) : noScr (valX p j d) = true := by
  have h := pick_mem (d := valD d) (xs := valL p j d) (by simp [valL])
  have h1 := odd_ok _ (pick_mem (d := CM.rd d 1000) (xs := oddL (rv d 1000)) (by simp [oddL]))
  unfold valX
  generalize pick (valD d) (valL p j d) = y at h
  simp only [valL, List.mem_cons, List.not_mem_nil, or_false] at h
  rcases h with rfl | rfl | rfl | rfl | rfl | rfl | rfl | rfl | rfl <;> first | exact h1 | rfl
inductive R__law_value (K : PySem.W.Frag) (C : Str → Addr) (T : List (Addr × Str)) : FR
  | mk {v d p j n g} (hd : DOk n d) (hn : n < 100000) (hj : j < 15) : R__law_value K C T ⟨[.res (lstR K (some v) (dl d)), .dat (plD p), .dat (.str (cN j))], g⟩ (.rt (valX p j d) ⟨[.res (lstR K (some v) (dl (CM.rd (valD d) 9))), .dat (plD p), .dat (.str (cN j))], g⟩)
def t__law_value (K : PySem.W.Frag) (C : Str → Addr) (T : List (Addr × Str)) (E : XK) : TS :=
  (tRet (tCall (spF K (R__law_pick K C T)) [] E (tCons (tVar 0) (tCons (tLst (tCons (tCall (spF K (R__law_pick K C T)) [] E (tCons (tVar 0) (tCons (tCall (spF K (R__law_odd_values K C T)) [] E (tCons (tVar 0) tNil)) tNil))) (tCons (tDGet (tVar 1) (tVar 2)) (tCons (tCall (spF K (R__law_roll K C T)) [] E (tCons (tVar 0) (tCons (tC (.int 202)) tNil))) (tCons (tCall (spF K (R__law_roll K C T)) [] E (tCons (tVar 0) (tCons (tC (.int 14)) tNil))) (tCons (tUn (rD1 K negOk negD) (tC (.int 1))) (tCons (tC (.bl true)) (tCons (tC (.int 0)) (tCons (tC (.int 13)) (tCons (tC (.int 101)) tNil)))))))))) tNil))))
theorem rd__law_value {v : V} {d : Dice} {p : PL} {j : Nat} {n : Int} {g} (hd : DOk n d) (hn : n < 100000) (hj : j < 15) :
    Run K E (t__law_value K C T E) ⟨[.res (lstR K (some v) (dl d)), .dat (plD p), .dat (.str (cN j))], g⟩ (.rt (valX p j d) ⟨[.res (lstR K (some v) (dl (CM.rd (valD d) 9))), .dat (plD p), .dat (.str (cN j))], g⟩) := by
  have h1 : DOk (n + 1) (CM.rd d 1000) := hd.rd
  have h2 : DOk (n + 1 + 1) (CM.rd (CM.rd d 1000) 22) := h1.rd
  have h3 : DOk (n + 1 + 1 + 1) (CM.rd (CM.rd (CM.rd d 1000) 22) 202) := h2.rd
  have h4 : DOk (n + 1 + 1 + 1 + 1) (valD d) := h3.rd
  refine run_ret ?_
  have fin : ∀ {s1 : S}, Ev K (tLst (tCons (tCall (spF K (R__law_pick K C T)) [] E (tCons (tVar 0) (tCons (tCall (spF K (R__law_odd_values K C T)) [] E (tCons (tVar 0) tNil)) tNil))) (tCons (tDGet (tVar 1) (tVar 2)) (tCons (tCall (spF K (R__law_roll K C T)) [] E (tCons (tVar 0) (tCons (tC (.int 202)) tNil))) (tCons (tCall (spF K (R__law_roll K C T)) [] E (tCons (tVar 0) (tCons (tC (.int 14)) tNil))) (tCons (tUn (rD1 K negOk negD) (tC (.int 1))) (tCons (tC (.bl true)) (tCons (tC (.int 0)) (tCons (tC (.int 13)) (tCons (tC (.int 101)) tNil))))))))))
      ⟨[.res (lstR K (some v) (dl d)), .dat (plD p), .dat (.str (cN j))], g⟩ (.list (valL p j d)) ⟨[.res (lstR K (some v) (dl (valD d))), .dat (plD p), .dat (.str (cN j))], g⟩ := by
    intro _
    apply ev_lst
    · apply ea_cons
      · exact ev_pickD (K := K) (C := C) (T := T) (E := E) (d0 := d) (d := CM.rd d 1000) (n := n + 1) (xs := oddL (rv d 1000)) (x := pick (CM.rd d 1000) (oddL (rv d 1000))) (s1 := ⟨[.res (lstR K (some v) (dl (CM.rd d 1000))), .dat (plD p), .dat (.str (cN j))], g⟩) (ov := some v) (ov' := some v) rfl (ev_callL (i := 0) (es := dl d) (es1 := dl d) (es2 := dl (CM.rd d 1000)) (ov := some v) (ov' := some v) rfl ea_nil rfl fun v => .mk hd hn) rfl h1 (by omega) (by simp [oddL]) (by simp [oddL]) rfl
      walk_at "d"
      apply ea_cons
      · exact ev_dget (k := .inr (cN j)) (ds := plKV p) (ev_var rfl) (ev_var rfl) (look_get j hj)
      apply ea_cons
      · exact ev_rollD (d0 := CM.rd (CM.rd d 1000) 22) (d := CM.rd (CM.rd d 1000) 22) (n := n + 1 + 1) (ov := some v) (ov' := some v) rfl ev_int rfl h2 (by omega) (by decide) (by decide) rfl
      walk_at "d"
      apply ea_cons
      · exact ev_rollD (d0 := CM.rd (CM.rd (CM.rd d 1000) 22) 202) (d := CM.rd (CM.rd (CM.rd d 1000) 22) 202) (n := n + 1 + 1 + 1) (ov := some v) (ov' := some v) rfl ev_int rfl h3 (by omega) (by decide) (by decide) rfl
      walk_at "d"
      exact ea_cons (ev_negI ev_int) (ea_cons ev_bl (ea_cons ev_int (ea_cons ev_int (ea_cons ev_int ea_nil))))
    · exact le_size (by simp [valL])
  exact ev_pickD (K := K) (C := C) (T := T) (E := E) (d0 := d) (d := valD d) (n := n + 1 + 1 + 1 + 1) (xs := valL p j d) (ov := some v) (ov' := some v) rfl (fin (s1 := ⟨[], g⟩)) rfl h4 (by omega) (by simp [valL]) (by simp [valL]) rfl
end K11

namespace K11
open PySem PySem.Spec PyProof.Rows L2 DL KwX GdX CM
variable {P : Program} {w : World} {K : PySem.W.Frag} {C : Str → Addr} {T : List (Addr × Str)} {E : XK}
/-- a loop that runs to its end; what is known behind each turn -/
theorem run_forC {Inv : Nat → S → Prop} {ds : List D} {wi : TI} {g : TG} {t : TS} {s s0 s1 : S} (hw : IterD K wi s ds s1) (h0 : SLe s1 s0) (hi : Inv 0 s0)
    (hs : ∀ i d s, ds[i]? = some d → Inv i s → ∃ s2 s3, Tg K g s d s2 ∧ Run K E t s2 (.nx s3) ∧ Inv (i + 1) s3) : ∃ s3, Inv ds.length s3 ∧ Run K E (tFor wi g t) s (.nx s3) := by
  have step : ∀ (i : Nat) (s : S), ∃ s3, ∀ d, ds[i]? = some d → Inv i s → (∃ s2, Tg K g s d s2 ∧ Run K E t s2 (.nx s3)) ∧ Inv (i + 1) s3 := by
    intro i s
    by_cases h : ∃ d, ds[i]? = some d ∧ Inv i s
    · obtain ⟨d, h1, h2⟩ := h
      obtain ⟨s2, s3, a, b, c⟩ := hs i d s h1 h2
      refine ⟨s3, fun d' h1' _ => ?_⟩
      rw [h1] at h1'
      cases h1'
      exact ⟨⟨s2, a, b⟩, c⟩
    · exact ⟨s, fun d h1 h2 => absurd ⟨d, h1, h2⟩ h⟩
  let f : Nat → S := fun i => Nat.rec s0 (fun i s => (step i s).choose) i
  have f1 : ∀ i, f (i + 1) = (step i (f i)).choose := fun i => rfl
  have inv : ∀ i, i ≤ ds.length → Inv i (f i) := by
    intro i
    induction i with
    | zero => exact fun _ => hi
    | succ i ih =>
      intro hl
      have hd : ds[i]? = some ds[i] := List.getElem?_eq_getElem (by omega)
      rw [f1]
      exact ((step i (f i)).choose_spec _ hd (ih (by omega))).2
  refine ⟨f ds.length, inv _ (Nat.le_refl _), run_forG f ds.length hw h0 (Nat.le_refl _) (fun i d hi hd => ?_) (.inl ⟨rfl, rfl⟩)⟩
  rw [f1]
  exact ((step i (f i)).choose_spec d hd (inv i (by omega))).1
theorem set_at {s : S} {i : Nat} {x y : Sl} (h : s.s[i]? = some x) : (s.set i y).s[i]? = some y := List.getElem?_set_self (List.getElem?_eq_some_iff.mp h).1
theorem set_set {s : S} {i : Nat} {x y : Sl} : (s.set i x).set i y = s.set i y := by
  unfold S.set
  simp
theorem run_own {ov : Option V} {d : Dice} {n : Int} {s : S} {j : Nat} {t : Int} (h0 : s.s[0]? = some (.res (lstR K ov (dl d)))) (hd : DOk n d) (hn : n < 90000) (ht : 0 < t ∧ t < 1000) :
    ∃ p D2, POk p ∧ DOk (n + 25) D2 ∧ Run K E (tAsg (tIf (tTest (tOp (rD2 K eqOk eqD) (tCall (spF K (R__law_roll K C T)) [] E (tCons (tVar 0) (tCons (tC (.int t)) tNil))) (tC (.int 0)))) (tCall (spF K (R__law_l_wide K C T)) [] E (tCons (tVar 0) tNil)) (tCall (spF K (R__law_l_choices K C T)) [] E (tCons (tVar 0) tNil))) (gName j)) s (.nx ((s.set 0 (.res (lstR K ov (dl D2)))).set j (.dat (plD p)))) := by
  have roll := et_test (K := K) (ev_eqI (ev_rollD (K := K) (C := C) (T := T) (E := E) (d0 := d) (x := rv d t) h0 ev_int h0 hd (by omega) ht.1 (by omega) rfl) (ev_int (i := 0)))
  by_cases c : rv d t = 0
  · rw [decide_eq_true c] at roll
    refine ⟨wdP (CM.rd d t), wdD (CM.rd d t) 19, wdP_ok _, (wdD_ok hd.rd 19).up (by omega), run_asg (ev_ifT roll ?_)⟩
    have := ev_callL (K := K) (E := E) (R := R__law_l_wide K C T) (tr := tNil) (ds := []) (i := 0) (ov := ov) (es := dl (CM.rd d t)) (es2 := dl (wdD (CM.rd d t) 19)) (d := plD (wdP (CM.rd d t))) (set_at (y := .res (lstR K ov (dl (CM.rd d t)))) h0) ea_nil (set_at h0) fun v => .mk hd.rd (by omega)
    rw [set_set] at this
    exact this
  · rw [decide_eq_false c] at roll
    refine ⟨chP (CM.rd d t), chD (CM.rd d t) 15, chP_ok _, (chD_ok hd.rd 15).up (by omega), run_asg (ev_ifF roll ?_)⟩
    have := ev_callL (K := K) (E := E) (R := R__law_l_choices K C T) (tr := tNil) (ds := []) (i := 0) (ov := ov) (es := dl (CM.rd d t)) (es2 := dl (chD (CM.rd d t) 15)) (d := plD (chP (CM.rd d t))) (set_at (y := .res (lstR K ov (dl (CM.rd d t)))) h0) ea_nil (set_at h0) fun v => .mk hd.rd (by omega)
    rw [set_set] at this
    exact this
theorem nodupE (f : Nat → D) : ((aKV f).map (·.1)).Nodup := by
  have : (aKV f).map (·.1) = chNames.map PyData.str := rfl
  rw [this]
  have h : chNames.Pairwise (· ≠ ·) := by decide +kernel
  exact List.Pairwise.map _ (fun a b (hab : a ≠ b) (e : PyData.str a = PyData.str b) => hab (PyData.str.inj e)) h
theorem eo_copyE {p : PL} {s : S} {te : TE} (h : Ev K te s (plD p) s) : EvO K (tCB (rDictP K) (tCons (LiI.tListItems te) tNil)) s (dctR K none (plKV p)) s :=
  eo_dcopy h (nodupE (pF p)) fun d hd => ⟨.inr "rows", by cases hd; rfl⟩
theorem size15 : (15 : Nat) < sizeLine := Nat.lt_of_lt_of_le (by decide : 15 < 100) (le_size (by decide))
theorem sok_due {f : Nat → D} : PyData.strOk (dueS f) = true := by
  cases hb : badN f with
  | none =>
    obtain ⟨p, ok, e1, e2, e3⟩ := bad_pl hb
    rw [due_pl hb e3]
    show PyData.strOk (PyData.tuple (rowL p)).shown = true
    rw [row_ints]
    exact sok_tupI _
  | some i =>
    rw [due_bad hb]
    exact cn_ok (bad_some hb).1
inductive R__law_right (P : Program) (w : World) (K : PySem.W.Frag) (C : Str → Addr) (T : List (Addr × Str)) : FR
  | mk {v d} (hd : DOk 0 d) : R__law_right P w K C T ⟨[.res (lstR K (some v) (dl d))], T⟩ (.rt (.bool true) ⟨[.unk], T⟩)
inductive R_law (P : Program) (w : World) (K : PySem.W.Frag) (C : Str → Addr) (T : List (Addr × Str)) : FR
  | mk {ns} (h : ns.length ≤ 63) : R_law P w K C T ⟨[.dat (scrD ns)], T⟩ (.rt (.bool true) ⟨[.dat (scrD ns)], T⟩)
def t__law_right (P : Program) (w : World) (K : PySem.W.Frag) (C : Str → Addr) (T : List (Addr × Str)) (E : XK) : TS :=
  (tSeq (tAsg (tIf (tTest (tOp (rD2 K eqOk eqD) (tCall (spF K (R__law_roll K C T)) [] E (tCons (tVar 0) (tCons (tC (.int 2)) tNil))) (tC (.int 0)))) (tCall (spF K (R__law_l_wide K C T)) [] E (tCons (tVar 0) tNil)) (tCall (spF K (R__law_l_choices K C T)) [] E (tCons (tVar 0) tNil))) (gName 1))
    (tSeq (tAsg (tCB (rDictP K) (tCons (LiI.tListItems (tVar 1)) tNil)) (gName 3))
    (tSeq (tFor (iRng1 (tCons (tCall (spF K (R__law_pick K C T)) [] E (tCons (tVar 0) (tCons (tLst (tCons (tC (.int 0)) (tCons (tC (.int 1)) (tCons (tC (.int 1)) (tCons (tC (.int 2)) tNil))))) tNil))) tNil)) (gName 2) (tSeq (tAsg (tOp (rD2 K ixOk ixD) (tCall (spF K (R__law_pick K C T)) [] E (tCons (tVar 0) (tCons (tCall (spF K (R__law_l_table K C T)) [] E tNil) tNil))) (tC (.int 0))) (gName 4))
    (tAsg (tCall (spF K (R__law_value K C T)) [] E (tCons (tVar 0) (tCons (tVar 1) (tCons (tVar 4) tNil)))) (gSub (tVar 3) (tVar 4) rSetD))))
    (tSeq (tIfS (tTest (tOp (rD2 K eqOk neD) (LamX.tLam T (GdX.TMet K (C "BadPlan") (C "Plan") (spF K (R_Plan_row K C T))) (fun E' => (tCall (spF K (R__law_l_plan P w K C T)) [] E' (tCons (tVar 3) tNil)))) (tCall (spF K (R__law_due K C T)) [] E (tCons (tVar 3) tNil)))) (tRet (tC (.bl false))) tNext)
    (tSeq (tAsg (tTup (tCons (tCall (spF K (R__law_l_plan P w K C T)) [] E (tCons (tVar 1) tNil)) (tCons (tOp (rD2 K ixOk ixD) (tCall (spF K (R__law_pick K C T)) [] E (tCons (tVar 0) (tCons (tCall (spF K (R__law_l_table K C T)) [] E tNil) tNil))) (tC (.int 0))) (tCons (tCB (rDictP K) (tCons (LiI.tListItems (tVar 1)) tNil)) tNil)))) (gTup K 3 (gCons (gName 6) (gCons (gName 4) (gCons (gName 5) gNil)))))
    (tSeq (tAsg (tCall (spF K (R__law_value K C T)) [] E (tCons (tVar 0) (tCons (tVar 1) (tCons (tVar 4) tNil)))) (gSub (tVar 5) (tVar 4) rSetD))
    (tSeq (tIfS (tOr (tTest (tOp (rD2 K eqOk neD) (LamX.tLam T (GdX.TMet K (C "BadPlan") (C "Plan") (spF K (R_Plan_row K C T))) (fun E' => (tCall (spF K (R__law_l_with P w K C T)) [] E' (tCons (tVar 6) (tCons (tVar 4) (tCons (tDGet (tVar 5) (tVar 4)) tNil)))))) (tCall (spF K (R__law_due K C T)) [] E (tCons (tVar 5) tNil)))) (tNot (tB (tCall (spF K (R__law_is_own K C T)) [] E (tCons (tVar 6) (tCons (tVar 1) tNil)))))) (tRet (tC (.bl false))) tNext)
    (tSeq (tIfS (tAnd (tTest (tOp (rD2 K eqOk eqD) (tCall (spF K (R__law_l_first_bad K C T)) [] E (tCons (tVar 5) tNil)) (tC (.str "")))) (tTest (tOp (rD2 K eqOk neD) (tOp (GdX.rCmpI K (C "Plan") false (spF K (R_Plan___eq__ K C T)) E) (tCall (spF K (R__law_l_with P w K C T)) [] E (tCons (tVar 6) (tCons (tVar 4) (tCons (tDGet (tVar 5) (tVar 4)) tNil)))) (tVar 6)) (tOp (rD2 K eqOk eqD) (tDGet (tVar 5) (tVar 4)) (tDGet (tVar 1) (tVar 4)))))) (tRet (tC (.bl false))) tNext)
    (tRet (tAndV (tOp (GdX.rCmpI K (C "Plan") false (spF K (R_Plan___eq__ K C T)) E) (tVar 6) (tCall (spF K (R__law_l_plan P w K C T)) [] E (tCons (tVar 1) tNil))) (tAndV (tNotV (tOp (GdX.rCmpI K (C "Plan") true (spF K (R_Plan___eq__ K C T)) E) (tVar 6) (tCall (spF K (R__law_l_plan P w K C T)) [] E (tCons (tVar 1) tNil)))) (tAndV (tOp (GdX.rCmpI K (C "Plan") true (spF K (R_Plan___eq__ K C T)) E) (tVar 6) (tMeth (C "Plan") "row" (spF K (R_Plan_row K C T)) [] E (tVar 6) tNil)) (tOp (GdX.rCmpI K (C "Plan") true (spF K (R_Plan___eq__ K C T)) E) (tVar 6) (tC .non))))))))))))))
def t_law (P : Program) (w : World) (K : PySem.W.Frag) (C : Str → Addr) (T : List (Addr × Str)) (E : XK) : TS :=
  (tSeq (tFor (iRng1 (tCons (tCB (rDn K mmOk maxD) (tCons (tC (.int 1)) (tCons (tCB (rDn K mmOk minD) (tCons (tC (.int 4)) (tCons (tCB (rDn K lenOk lenD) (tCons (tVar 0) tNil)) tNil))) tNil))) tNil)) (gName 1) (tIfS (tNot (tB (tCall (spF K (R__law_right P w K C T)) [] E (tCons (tCall (spF K (R__law_dice K C T)) [] E (tCons (tVar 0) (tCons (tVar 1) tNil))) tNil)))) (tRet (tC (.bl false))) tNext))
    (tSeq (tAsg (tLst (tCons (LamX.tLam T (GdX.TMet K (C "BadPlan") (C "Plan") (spF K (R_Plan_row K C T))) (fun E' => (KwX.tMakeKw (C "Plan") ["gap", "kopies"] (spF K (R_Plan___init__ P w K C T)) E' (tCons (tC (.int 99)) (tCons (tC (.int 3)) tNil))))) (tCons (LamX.tLam T (GdX.TMet K (C "BadPlan") (C "Plan") (spF K (R_Plan_row K C T))) (fun E' => (KwX.tMakeKw (C "Plan") ["kopies", "gap"] (spF K (R_Plan___init__ P w K C T)) E' (tCons (tC (.int 3)) (tCons (tC (.int 99)) tNil))))) (tCons (LamX.tLam T (GdX.TMet K (C "BadPlan") (C "Plan") (spF K (R_Plan_row K C T))) (fun E' => (KwX.tMakeKw (C "Plan") ["spare", "rows"] (spF K (R_Plan___init__ P w K C T)) E' (tCons (tC (.int 201)) (tCons (tC (.int 4)) tNil))))) tNil)))) (gName 2))
    (tSeq (tAsg (tOp (rD2 K addOk addD) (tVar 2) (tLst (tCons (LamX.tLam T (GdX.TMet K (C "BadPlan") (C "Plan") (spF K (R_Plan_row K C T))) (fun E' => (KwX.tMethKw (C "Plan") "changed" ["gap", "Gap"] (spF K (R_Plan_changed P w K C T)) E' (KwX.tMakeKw (C "Plan") [] (spF K (R_Plan___init__ P w K C T)) E' tNil) (tCons (tC (.int 4)) (tCons (tC (.int 1)) tNil))))) (tCons (LamX.tLam T (GdX.TMet K (C "BadPlan") (C "Plan") (spF K (R_Plan_row K C T))) (fun E' => (KwX.tMakeKw (C "Plan") ["trips"] (spF K (R_Plan___init__ P w K C T)) E' (tCons (tC (.int 4)) tNil)))) (tCons (LamX.tLam T (GdX.TMet K (C "BadPlan") (C "Plan") (spF K (R_Plan_row K C T))) (fun E' => (KwX.tMakeKw (C "Plan") ["crews"] (spF K (R_Plan___init__ P w K C T)) E' (tCons (tC (.bl true)) tNil)))) tNil))))) (gName 2))
    (tSeq (tIfS (tOr (tTest (tOp (rD2 K eqOk neD) (tVar 2) (tLst (tCons (tC (.str "kopies")) (tCons (tC (.str "kopies")) (tCons (tC (.str "rows")) (tCons (tC (.str "Gap")) (tCons (tC (.str "trips")) (tCons (tC (.str "crews")) tNil))))))))) (tTest (tOp (rD2 K eqOk neD) (LamX.tLam T (GdX.TMet K (C "BadPlan") (C "Plan") (spF K (R_Plan_row K C T))) (fun E' => (KwX.tMakeKw (C "Plan") [] (spF K (R_Plan___init__ P w K C T)) E' tNil))) (tCall (spF K (R__law_due K C T)) [] E (tCons (tCB (rDictP K) (tCons (tCall (spF K (R__law_l_table K C T)) [] E tNil) tNil)) tNil))))) (tRet (tC (.bl false))) tNext)
    (tRet (tOp (rD2 K eqOk eqD) (tC (.ref (C "CHOICES"))) (tCB (rDn K seqOk tupD) (tCons (tLc (iSeq K (tCall (spF K (R__law_l_table K C T)) [] E tNil)) (gName 3) tYes (tOp (rD2 K ixOk ixD) (tVar 3) (tC (.int 0))) [3]) tNil))))))))
/-- a name of the table is drawn -/
theorem ev_name {d : Dice} {n : Int} {s : S} {v : V} {j : Nat} (hi : s.s[0]? = some (.res (lstR K (some v) (dl d)))) (hd : DOk n d) (hn : n < 90000) (e : pick d tbL = .tuple [.str (cN j), .int (cDf j)]) :
    Ev K (tOp (rD2 K ixOk ixD) (tCall (spF K (R__law_pick K C T)) [] E (tCons (tVar 0) (tCons (tCall (spF K (R__law_l_table K C T)) [] E tNil) tNil))) (tC (.int 0))) s (.str (cN j)) (s.set 0 (.res (lstR K (some v) (dl (CM.rd d 15))))) :=
  ev_ixT (ds := [.str (cN j), .int (cDf j)]) (ev_pickD (K := K) (C := C) (T := T) (E := E) (d0 := d) (d := d) (n := n) (xs := tbL) (s1 := s) hi (ev_call (ds := []) ea_nil .mk) hi hd (by omega) (by decide) (by decide) e) ev_int rfl
theorem pick_tb (d : Dice) : ∃ j < 15, pick d tbL = .tuple [.str (cN j), .int (cDf j)] := tb_mem (pick_mem (d := d) (xs := tbL) (by decide))
/-- a value is stored under a drawn name -/
theorem dok_val {d : Dice} {n : Int} (hd : DOk n d) : DOk (n + 10) (CM.rd (valD d) 9) := by
  have h1 : DOk (n + 1) (CM.rd d 1000) := hd.rd
  have h2 : DOk (n + 1 + 1) (CM.rd (CM.rd d 1000) 22) := h1.rd
  have h3 : DOk (n + 1 + 1 + 1) (CM.rd (CM.rd (CM.rd d 1000) 22) 202) := h2.rd
  have h4 : DOk (n + 1 + 1 + 1 + 1) (valD d) := h3.rd
  exact (h4.rd (t := 9)).up (by omega)
/-- what a lambda that makes a plan comes to is what is due -/
theorem ne_due {f : Nat → D} {s : S} {t : XK → TE} {td : TE} (hok : ∀ p, POk p → aKV f = plKV p → ∀ E, Ev K (t E) s (plO C p) s) (hno : ∀ i, badN f = some i → ∀ E, EvR K E (t E) s (C "BadPlan") "name" (.str (cN i)) s) (hd : Ev K td s (.str (dueS f)) s) :
    EvT K (tTest (tOp (rD2 K eqOk neD) (LamX.tLam s.g (TMet K (C "BadPlan") (C "Plan") (spF K (R_Plan_row K C T))) t) td)) s false s := by
  have met : Ev K (LamX.tLam s.g (TMet K (C "BadPlan") (C "Plan") (spF K (R_Plan_row K C T))) t) s (.str (dueS f)) s := by
    cases hb : badN f with
    | none =>
      obtain ⟨p, ok, e1, e2, e3⟩ := bad_pl hb
      rw [due_pl hb e3]
      exact ev_lamMet (os := plF p) (d := rowD p) (hok p ok e1) pf_row R_Plan_row.mk (row_repr ok)
    | some i =>
      rw [due_bad hb]
      exact ev_lamMetX (hno i hb)
  exact EvT.to (et_test (ev_neSS (a := dueS f) (b := dueS f) met hd sok_due sok_due)) (by simp)
theorem rows_eqv (p q : PL) : PyData.eqv (.tuple (rowL p)) (.tuple (rowL q)) = decide ((List.range 15).map (plGet p) = (List.range 15).map (plGet q)) := by
  rw [row_ints, row_ints]
  exact eqv_intT
theorem rows_set {p p' : PL} {j : Nat} {z : Int} (hj : j < 15) (h : ∀ i < 15, setF (pF p) j (.int z) i = .int (plGet p' i)) : PyData.eqv (.tuple (rowL p')) (.tuple (rowL p)) = decide (z = plGet p j) := by
  rw [rows_eqv]
  have hz : plGet p' j = z := by
    have := h j hj
    unfold setF at this
    rw [if_pos rfl] at this
    exact (PyData.int.inj this).symm
  refine decide_eq_decide.mpr ⟨fun e => ?_, fun e => ?_⟩
  · have : ((List.range 15).map (plGet p'))[j]? = ((List.range 15).map (plGet p))[j]? := by rw [e]
    rw [List.getElem?_map, List.getElem?_map, List.getElem?_range hj] at this
    rw [← hz]
    exact Option.some.inj this
  · refine List.map_congr_left fun i hi => ?_
    have hi' := List.mem_range.mp hi
    by_cases c : i = j
    · subst c; rw [hz, e]
    · have := h i hi'
      unfold setF at this
      rw [if_neg c] at this
      exact (PyData.int.inj this).symm
theorem rd__law_right {v : V} {d : Dice} (hk : Pk P w K C) (hd : DOk 0 d) : Run K E (t__law_right P w K C T E) ⟨[.res (lstR K (some v) (dl d)), .unk, .unk, .unk, .unk, .unk, .unk], T⟩ (.rt (.bool true) ⟨[.unk, .unk, .unk, .unk, .unk, .unk, .unk], T⟩) := by
  obtain ⟨p, D1, hp, hD1, own⟩ := run_own (K := K) (C := C) (T := T) (E := E) (s := ⟨[.res (lstR K (some v) (dl d)), .unk, .unk, .unk, .unk, .unk, .unk], T⟩) (j := 1) (t := 2) rfl hd (by decide) (by decide)
  refine run_seq own ?_
  clear own
  walk_at "d"
  apply run_seq
  · exact run_asgO (eo_copyE (ev_var rfl))
  walk_at "d"
  -- up to two choices are replaced
  have loop : ∃ f D2, (∀ i < 15, noScr (f i) = true) ∧ DOk 200 D2 ∧ Run K E (tFor (iRng1 (tCons (tCall (spF K (R__law_pick K C T)) [] E (tCons (tVar 0) (tCons (tLst (tCons (tC (.int 0)) (tCons (tC (.int 1)) (tCons (tC (.int 1)) (tCons (tC (.int 2)) tNil))))) tNil))) tNil)) (gName 2) (tSeq (tAsg (tOp (rD2 K ixOk ixD) (tCall (spF K (R__law_pick K C T)) [] E (tCons (tVar 0) (tCons (tCall (spF K (R__law_l_table K C T)) [] E tNil) tNil))) (tC (.int 0))) (gName 4))
    (tAsg (tCall (spF K (R__law_value K C T)) [] E (tCons (tVar 0) (tCons (tVar 1) (tCons (tVar 4) tNil)))) (gSub (tVar 3) (tVar 4) rSetD))))
      ⟨[.res (lstR K (some v) (dl D1)), .dat (plD p), .unk, .res (dctR K none (plKV p)), .unk, .unk, .unk], T⟩ (.nx ⟨[.res (lstR K (some v) (dl D2)), .dat (plD p), .unk, .res (dctR K none (aKV f)), .unk, .unk, .unk], T⟩) := by
    have hm := pick_mem (d := D1) (xs := [.int 0, .int 1, .int 1, .int 2]) (List.cons_ne_nil _ _)
    obtain ⟨m, hm1, hm2⟩ : ∃ m : Nat, m ≤ 2 ∧ pick D1 [.int 0, .int 1, .int 1, .int 2] = .int (m : Int) := by
      generalize pick D1 [.int 0, .int 1, .int 1, .int 2] = y at hm ⊢
      simp only [List.mem_cons, List.not_mem_nil, or_false] at hm
      rcases hm with rfl | rfl | rfl | rfl
      · exact ⟨0, by decide, rfl⟩
      · exact ⟨1, by decide, rfl⟩
      · exact ⟨1, by decide, rfl⟩
      · exact ⟨2, by decide, rfl⟩
    have hD2 : DOk 26 (CM.rd D1 4) := hD1.rd
    obtain ⟨s3, ⟨f, D2, i1, i2, rfl⟩, run⟩ := run_forC (K := K) (E := E) (ds := upTo 0 ((m : Int)).toNat) (s := ⟨[.res (lstR K (some v) (dl D1)), .dat (plD p), .unk, .res (dctR K none (plKV p)), .unk, .unk, .unk], T⟩)
      (s1 := ⟨[.res (lstR K (some v) (dl (CM.rd D1 4))), .dat (plD p), .unk, .res (dctR K none (plKV p)), .unk, .unk, .unk], T⟩) (s0 := ⟨[.res (lstR K (some v) (dl (CM.rd D1 4))), .dat (plD p), .unk, .res (dctR K none (plKV p)), .unk, .unk, .unk], T⟩)
      (Inv := fun i s => ∃ f D2, (∀ i < 15, noScr (f i) = true) ∧ DOk (26 + 11 * (i : Int)) D2 ∧ s = ⟨[.res (lstR K (some v) (dl D2)), .dat (plD p), .unk, .res (dctR K none (aKV f)), .unk, .unk, .unk], T⟩)
      (wi := iRng1 (tCons (tCall (spF K (R__law_pick K C T)) [] E (tCons (tVar 0) (tCons (tLst (tCons (tC (.int 0)) (tCons (tC (.int 1)) (tCons (tC (.int 1)) (tCons (tC (.int 2)) tNil))))) tNil))) tNil)) (g := gName 2)
      (t := tSeq (tAsg (tOp (rD2 K ixOk ixD) (tCall (spF K (R__law_pick K C T)) [] E (tCons (tVar 0) (tCons (tCall (spF K (R__law_l_table K C T)) [] E tNil) tNil))) (tC (.int 0))) (gName 4))
        (tAsg (tCall (spF K (R__law_value K C T)) [] E (tCons (tVar 0) (tCons (tVar 1) (tCons (tVar 4) tNil)))) (gSub (tVar 3) (tVar 4) rSetD)))
      (it_r1 (n := (m : Int)) (ev_pickD (K := K) (C := C) (T := T) (E := E) (d0 := D1) (d := D1) (n := 25) (xs := [.int 0, .int 1, .int 1, .int 2]) (s1 := ⟨[.res (lstR K (some v) (dl D1)), .dat (plD p), .unk, .res (dctR K none (plKV p)), .unk, .unk, .unk], T⟩) (ov := some v) (ov' := some v) rfl (by walk_at "ev") rfl hD1 (by decide) (List.cons_ne_nil _ _) (by decide) hm2) (by omega)) (SLe.refl _)
      ⟨pF p, CM.rd D1 4, fun _ _ => rfl, hD2.up (by decide), rfl⟩ (fun i x s hx ⟨f, D2, i1, i2, e⟩ => by
        subst e
        have hi : i < 2 := by
          have := (List.getElem?_eq_some_iff.mp hx).1
          rw [upTo_len] at this
          omega
        obtain ⟨j, hj, ej⟩ := pick_tb D2
        have n1 : DOk (26 + 11 * (i : Int) + 1) (CM.rd D2 15) := i2.rd
        refine ⟨_, ⟨[.res (lstR K (some v) (dl (CM.rd (valD (CM.rd D2 15)) 9))), .dat (plD p), .unk, .res (dctR K none (aKV (setF f j (valX p j (CM.rd D2 15))))), .unk, .unk, .unk], T⟩, tg_name, ?_, setF f j (valX p j (CM.rd D2 15)), _, ?_, (dok_val n1).up (by push_cast; omega), rfl⟩
        · walk_at "d"
          apply run_seq
          · exact run_asg (ev_name (C := C) (T := T) (E := E) (v := v) rfl i2 (by omega) ej)
          walk_at "d"
          have put := run_putD (K := K) (E := E) (i := 3) (ov := none) (ov' := none) (k := .inr (cN j)) (d := valX p j (CM.rd D2 15)) (ds := aKV f) (ds' := aKV f) (te := tCall (spF K (R__law_value K C T)) [] E (tCons (tVar 0) (tCons (tVar 1) (tCons (tVar 4) tNil)))) (ti := tVar 4) (s := ⟨[.res (lstR K (some v) (dl (CM.rd D2 15))), .dat (plD p), .dat x, .res (dctR K none (aKV f)), .dat (.str (cN j)), .unk, .unk], T⟩)
            (s1 := ⟨[.res (lstR K (some v) (dl (CM.rd (valD (CM.rd D2 15)) 9))), .dat (plD p), .dat x, .res (dctR K none (aKV f)), .dat (.str (cN j)), .unk, .unk], T⟩) (s2 := ⟨[.res (lstR K (some v) (dl (CM.rd (valD (CM.rd D2 15)) 9))), .dat (plD p), .dat x, .res (dctR K none (aKV f)), .dat (.str (cN j)), .unk, .unk], T⟩)
            (ev_callL (i := 0) (es := dl (CM.rd D2 15)) (es1 := dl (CM.rd D2 15)) (es2 := dl (CM.rd (valD (CM.rd D2 15)) 9)) (ov := some v) (ov' := some v) rfl (ea_cons (ev_var rfl) (ea_cons (ev_var rfl) ea_nil)) rfl fun v => .mk n1 (by omega) hj) rfl (ev_var rfl) rfl size15
          rw [put_a j hj] at put
          exact run_le put (Fo.le (by walk_at "fo"))
        · intro k hk'
          unfold setF
          by_cases c : k = j
          · rw [if_pos c]; exact val_scr _ _ _
          · rw [if_neg c]; exact i1 k hk')
    refine ⟨f, D2, i1, i2.up ?_, run⟩
    rw [upTo_len]; omega
  obtain ⟨f, D2, hf, hD2, loop⟩ := loop
  refine run_seq loop ?_
  clear loop
  walk_at "d"
  refine run_frzD (i := 3) (ov := none) (ds := aKV f) rfl ?_
  walk_at "d"
  apply run_seq
  · refine run_no (ne_due (f := f) (C := C) (T := T) (s := ⟨[.res (lstR K (some v) (dl D2)), .dat (plD p), .unk, .dat (aD f), .unk, .unk, .unk], T⟩) (t := fun E' => tCall (spF K (R__law_l_plan P w K C T)) [] E' (tCons (tVar 3) tNil)) (fun q hq e E => ?_) (fun i hb E => er_call (ea_cons (ev_var rfl) ea_nil) (.no hf hb)) (ev_call (ea_cons (ev_var rfl) ea_nil) (.mk hf))) run_next
    refine ev_call (ds := [plD q]) (ea_cons (ev_var ?_) ea_nil) (.mk hq)
    show some (Sl.dat (.dict (aKV f))) = _
    rw [e]; rfl
  obtain ⟨j, hj, ej⟩ := pick_tb D2
  have hD3 : DOk 201 (CM.rd D2 15) := hD2.rd
  apply run_seq
  · apply run_tupX3 (x1 := .dat (plO C p)) (x2 := .dat (.str (cN j))) (x3 := .res (dctR K none (plKV p)))
    apply ex_dat
    · exact ev_call (ea_cons (ev_var rfl) ea_nil) (.mk hp)
    apply ex_dat
    · exact ev_name (C := C) (T := T) (E := E) (v := v) rfl hD2 (by decide) ej
    apply ex_res
    · exact eo_copyE (ev_var rfl)
    exact ex_nil
  walk_at "d"
  generalize hx : valX p j (CM.rd D2 15) = x
  have nx : noScr x = true := by rw [← hx]; exact val_scr _ _ _
  apply run_seq
  · exact run_putD (K := K) (E := E) (i := 5) (ov := none) (ov' := none) (k := .inr (cN j)) (d := x) (ds := plKV p) (ds' := plKV p) (te := tCall (spF K (R__law_value K C T)) [] E (tCons (tVar 0) (tCons (tVar 1) (tCons (tVar 4) tNil)))) (ti := tVar 4) (s := ⟨[.res (lstR K (some v) (dl (CM.rd D2 15))), .dat (plD p), .unk, .dat (aD f), .dat (.str (cN j)), .res (dctR K none (plKV p)), .dat (plO C p)], T⟩)
      (s1 := ⟨[.res (lstR K (some v) (dl (CM.rd (valD (CM.rd D2 15)) 9))), .dat (plD p), .unk, .dat (aD f), .dat (.str (cN j)), .res (dctR K none (plKV p)), .dat (plO C p)], T⟩) (s2 := ⟨[.res (lstR K (some v) (dl (CM.rd (valD (CM.rd D2 15)) 9))), .dat (plD p), .unk, .dat (aD f), .dat (.str (cN j)), .res (dctR K none (plKV p)), .dat (plO C p)], T⟩)
      (Ev.to (ev_callL (i := 0) (es := dl (CM.rd D2 15)) (es1 := dl (CM.rd D2 15)) (es2 := dl (CM.rd (valD (CM.rd D2 15)) 9)) (ov := some v) (ov' := some v) rfl (ea_cons (ev_var rfl) (ea_cons (ev_var rfl) ea_nil)) rfl fun v => .mk hD3 (by decide) hj) hx) rfl (ev_var rfl) rfl size15
  walk_at "d"
  have put : dput (plKV p) (.inr (cN j)) x = aKV (setF (pF p) j x) := by rw [← aKV_pl]; exact put_a j hj
  rw [put]
  refine run_frzD (i := 5) (ov := none) (ds := aKV (setF (pF p) j x)) rfl ?_
  walk_at "d"
  generalize CM.rd (valD (CM.rd D2 15)) 9 = D3
  have ho : ∀ i < 15, noScr (setF (pF p) j x i) = true := set_scr nx
  have lx : setF (pF p) j x j = x := if_pos rfl
  have getx : ∀ {s : S}, s.s[5]? = some (.dat (aD (setF (pF p) j x))) → s.s[4]? = some (.dat (.str (cN j))) → Ev K (tDGet (tVar 5) (tVar 4)) s x s := fun h5 h4 => by
    have := ev_dget (K := K) (k := .inr (cN j)) (ds := aKV (setF (pF p) j x)) (ev_var h5) (ev_var h4) (look_a j hj)
    rw [lx] at this
    exact this
  apply run_seq
  · refine run_no (EvT.to (et_or (a := false) (b := false) (ne_due (f := setF (pF p) j x) (C := C) (T := T) (s := ⟨[.res (lstR K (some v) (dl D3)), .dat (plD p), .unk, .dat (aD f), .dat (.str (cN j)), .dat (aD (setF (pF p) j x)), .dat (plO C p)], T⟩) (t := fun E' => tCall (spF K (R__law_l_with P w K C T)) [] E' (tCons (tVar 6) (tCons (tVar 4) (tCons (tDGet (tVar 5) (tVar 4)) tNil)))) (fun q hq e E => ?_) (fun i hb E => ?_) (ev_call (ea_cons (ev_var rfl) ea_nil) (.mk ho))) fun _ => ?_) rfl) run_next
    · exact ev_call (ea_cons (ev_var rfl) (ea_cons (ev_var rfl) (ea_cons (getx rfl rfl) ea_nil))) (.ok hj e hq)
    · exact er_call (ea_cons (ev_var rfl) (ea_cons (ev_var rfl) (ea_cons (getx rfl rfl) ea_nil))) (.no hj nx hb)
    · exact et_not (b := true) (et_B (ev_call (ea_cons (ev_var rfl) (ea_cons (ev_var rfl) ea_nil)) (.mk hp)))
  have okE : PyData.strOk ("" : Str) = true := by decide +kernel
  apply run_seq (s1 := ⟨[.res (lstR K (some v) (dl D3)), .dat (plD p), .unk, .dat (aD f), .dat (.str (cN j)), .dat (aD (setF (pF p) j x)), .dat (plO C p)], T⟩)
  · cases hb : badN (setF (pF p) j x) with
    | some i =>
      have e : badS (setF (pF p) j x) = cN i := by unfold badS; rw [hb]
      have hi := (bad_some hb).1
      refine run_no (et_andF (EvT.to (et_test (ev_eqSS (a := cN i) (b := "") (Ev.to (ev_call (ea_cons (ev_var rfl) ea_nil) (.mk ho)) (by rw [e])) ev_str (cn_ok hi) okE)) (by simp [cn_ne i hi]))) run_next
    | none =>
      have e : badS (setF (pF p) j x) = "" := by unfold badS; rw [hb]
      obtain ⟨q, hq, e1, e2, e3⟩ := bad_pl hb
      obtain ⟨z, hz, _, _⟩ := good_int (bad_none hb j hj)
      rw [lx] at hz
      subst hz
      refine run_no (EvT.to (et_and (a := true) (b := false) (EvT.to (et_test (ev_eqSS (a := "") (b := "") (Ev.to (ev_call (ea_cons (ev_var rfl) ea_nil) (.mk ho)) (by rw [e])) ev_str okE okE)) (by simp)) fun _ => ?_) rfl) run_next
      refine EvT.to (et_test (ev_neT (s1 := ⟨[.res (lstR K (some v) (dl D3)), .dat (plD p), .unk, .dat (aD f), .dat (.str (cN j)), .dat (aD (setF (pF p) j (.int z))), .dat (plO C p)], T⟩) (x := .bool (PyData.eqv (.tuple (rowL q)) (.tuple (rowL p)))) (y := .bool (decide (z = plGet p j))) ?_ ?_ ⟨by kernel_rfl, by kernel_rfl⟩)) ?_
      · exact ev_cmpO (neg := false) hk.ob (ev_call (ea_cons (ev_var rfl) (ea_cons (ev_var rfl) (ea_cons (getx rfl rfl) ea_nil))) (.ok hj e1 hq)) (ev_var rfl) .pl
      · exact ev_eqI (getx rfl rfl) (ev_dget (k := .inr (cN j)) (ds := plKV p) (ev_var rfl) (ev_var rfl) (look_get j hj))
      · rw [rows_set hj e3]
        cases decide (z = plGet p j) <;> rfl
  refine run_rtle (s1 := ⟨[.res (lstR K (some v) (dl D3)), .dat (plD p), .unk, .dat (aD f), .dat (.str (cN j)), .dat (aD (setF (pF p) j x)), .dat (plO C p)], T⟩) (run_ret ?_) (Fo.le (by walk_at "fo"))
  have same : PyData.eqv (.tuple (rowL p)) (.tuple (rowL p)) = true := by rw [rows_eqv]; simp
  have mk : Ev K (tCall (spF K (R__law_l_plan P w K C T)) [] E (tCons (tVar 1) tNil)) ⟨[.res (lstR K (some v) (dl D3)), .dat (plD p), .unk, .dat (aD f), .dat (.str (cN j)), .dat (aD (setF (pF p) j x)), .dat (plO C p)], T⟩ (plO C p) ⟨[.res (lstR K (some v) (dl D3)), .dat (plD p), .unk, .dat (aD f), .dat (.str (cN j)), .dat (aD (setF (pF p) j x)), .dat (plO C p)], T⟩ := ev_call (ea_cons (ev_var rfl) ea_nil) (.mk hp)
  refine ev_and (a := true) (b := true) (Ev.to (ev_cmpO (neg := false) (b := true) hk.ob (ev_var rfl) mk (by rw [← same]; exact .pl)) rfl) fun _ => ?_
  refine ev_and (a := true) (b := true) (ev_not (a := false) (Ev.to (ev_cmpO (neg := true) (b := true) hk.ob (ev_var rfl) mk (by rw [← same]; exact .pl)) rfl)) fun _ => ?_
  refine ev_and (a := true) (b := true) (Ev.to (ev_cmpD (neg := true) (b := false) (os := plF p) (d := .tuple (rowL p)) (ev_var rfl) (ev_meth (ev_var rfl) pf_row ea_nil R_Plan_row.mk) rfl (.ot rfl)) rfl) fun _ => ?_
  exact Ev.to (ev_cmpD (neg := true) (b := false) (os := plF p) (d := .none) (ev_var rfl) ev_non rfl (.ot rfl)) rfl
end K11

namespace K11
open PySem PySem.Spec PyProof.Rows L2 DL KwX GdX CM
variable {P : Program} {w : World} {K : PySem.W.Frag} {C : Str → Addr} {T : List (Addr × Str)} {E : XK}
theorem bad_kop (b : D) : BadP [("gap", b), ("kopies", .int 3)] "kopies" := by
  refine .unk (x := ("kopies", .int 3)) (k := 1) rfl (by kernel_rfl) fun j y hj hy => ?_
  obtain rfl : j = 0 := by omega
  cases hy
  kernel_rfl
theorem bad_kop2 (b : D) : BadP [("kopies", .int 3), ("gap", b)] "kopies" := .unk (x := ("kopies", .int 3)) (k := 0) rfl (by kernel_rfl) fun j y hj hy => by omega
/-- the names are known, one value is refused -/
theorem bad_of {ps : List (Str × D)} {f : Nat → D} {i : Nat} (h1 : ps.all isKnown = true) (hf : fdL ps = aKV f) (hn : (List.range 15).all (fun i => noScr (f i)) = true) (hb : badN f = some i) : BadP ps (cN i) :=
  .val h1 hf (fun j hj => List.all_eq_true.mp hn j (List.mem_range.mpr hj)) hb
def f1 : Nat → D := setF (setF (pF dfP) 14 (.int 201)) 0 (.int 4)
def f2 : Nat → D := setF (pF dfP) 9 (.int 4)
def f3 : Nat → D := setF (pF dfP) 2 (.bool true)
theorem bad_1 : BadP [("spare", .int 201), ("rows", .int 4)] "rows" := bad_of (f := f1) (i := 0) (by kernel_rfl) (by kernel_rfl) (by kernel_rfl) (by kernel_rfl)
theorem bad_2 : BadP [("trips", .int 4)] "trips" := bad_of (f := f2) (i := 9) (by kernel_rfl) (by kernel_rfl) (by kernel_rfl) (by kernel_rfl)
theorem bad_3 : BadP [("crews", .bool true)] "crews" := bad_of (f := f3) (i := 2) (by kernel_rfl) (by kernel_rfl) (by kernel_rfl) (by kernel_rfl)
def f4 : Nat → D := setF (pF dfP) 8 (.int 4)
def gapL : List (Str × D) := [("Gap", .int 1)]
def qs4 : List (Str × D) := aPs f4 ++ gapL
theorem bad_4 : BadP qs4 "Gap" := by
  refine .unk (x := ("Gap", .int 1)) (k := 15) (by kernel_rfl) (by kernel_rfl) fun j y hj hy => ?_
  have : (aPs f4)[j]? = some y := by
    have e : qs4[j]? = (aPs f4)[j]? := List.getElem?_append_left (by show j < 15; exact hj)
    rw [← e]; exact hy
  exact List.all_eq_true.mp (known_a f4) y (List.mem_of_getElem? this)
theorem tk_nodup : ((toK (plPs dfP)).map (·.1)).Nodup := by
  have : (toK (plPs dfP)).map (·.1) = chNames.map Sum.inr := rfl
  rw [this]
  decide +kernel
theorem df_ok : POk dfP := ⟨by decide, by decide, by decide, by decide, by decide, by decide, by decide, by decide, by decide, by decide, by decide, by decide, by decide, by decide, by decide⟩
theorem df_get : ∀ i < 15, cDf i = plGet dfP i := by decide +kernel
theorem ev_plan0 {s : S} : Ev K (tMakeKw (C "Plan") [] (spF K (R_Plan___init__ P w K C T)) E tNil) s (plO C dfP) s :=
  ev_makeKw (ds := []) ea_nil rfl fun v => .ok (ps := []) (p := dfP) rfl rfl df_ok (by show 0 ≤ 1000; decide)
theorem rd_law {ns : List Int} (hk : Pk P w K C) (h : ns.length ≤ 63) : Run K E (t_law P w K C T E) ⟨[.dat (scrD ns), .unk, .unk, .unk], T⟩ (.rt (.bool true) ⟨[.unk, .unk, .unk, .unk], T⟩) := by
  apply run_seq
  · refine run_for (s1 := ⟨[.dat (scrD ns), .unk, .unk, .unk], T⟩) (ds := DL.upTo 0 (max 1 (min 4 (ns.length : Int))).toNat) (fun i => ⟨[.dat (scrD ns), .unk, .unk, .unk], T⟩) ?_ (SLe.refl _) fun i d hd => ?_
    · exact it_rng1 (n := max 1 (min 4 (ns.length : Int))) (ea_cons (ev_maxI ev_int (ev_minI ev_int (ev_lenS (ev_var rfl)))) ea_nil) (by omega)
    · obtain ⟨hi, rfl⟩ := upTo_get hd
      refine ⟨_, tg_name, ?_⟩
      walk_at "d"
      refine run_le (s1 := ⟨[.dat (scrD ns), .dat (.int (0 + (i : Int))), .unk, .unk], T⟩) ?_ (Fo.le (by walk_at "fo"))
      · apply run_no
        · apply EvT.to
          · apply et_not
            apply et_B (b := true)
            apply ev_callOw
            · apply eo_call
              · walk_at "ea"
              · exact .mk (by omega)
            · exact ea_nil
            · intro v
              exact .mk (dice0_ok _ _)
          · rfl
        · exact run_next
  apply run_seq
  · apply run_asg (d := .list [.str "kopies", .str "kopies", .str "rows"])
    apply ev_lst
    · apply ea_cons
      · exact ev_lamMetX fun _ => er_makeKw (ds := [.int 99, .int 3]) (ea_cons ev_int (ea_cons ev_int ea_nil)) rfl fun v => .no (bad_kop _) (by show 2 ≤ 1000; decide)
      apply ea_cons
      · exact ev_lamMetX fun _ => er_makeKw (ds := [.int 3, .int 99]) (ea_cons ev_int (ea_cons ev_int ea_nil)) rfl fun v => .no (bad_kop2 _) (by show 2 ≤ 1000; decide)
      apply ea_cons
      · exact ev_lamMetX fun _ => er_makeKw (ds := [.int 201, .int 4]) (ea_cons ev_int (ea_cons ev_int ea_nil)) rfl fun v => .no bad_1 (by show 2 ≤ 1000; decide)
      exact ea_nil
    · exact le_size (by simp)
  walk_at "d"
  apply run_seq
  · apply run_asg (d := .list ([.str "kopies", .str "kopies", .str "rows"] ++ [.str "Gap", .str "trips", .str "crews"]))
    apply ev_addL (xs := [.str "kopies", .str "kopies", .str "rows"]) (ys := [.str "Gap", .str "trips", .str "crews"])
    · exact ev_var rfl
    · apply ev_lst
      · apply ea_cons
        · refine ev_lamMetX fun _ => er_methKw (ds := [.int 4, .int 1]) ev_plan0 pf_changed (ea_cons ev_int (ea_cons ev_int ea_nil)) rfl (.no (qs := qs4) (by kernel_rfl) ?_ ?_ ⟨_, _, rfl⟩ bad_4 (by show 2 ≤ 1000; decide) (by show 16 ≤ 1000; decide))
          · have : qs4.map (·.1) = chNames ++ (["Gap"] : List Str) := rfl
            rw [this]
            decide +kernel
          · have : qs4.map (·.1) = chNames ++ (["Gap"] : List Str) := rfl
            rw [this]
            decide +kernel
        apply ea_cons
        · exact ev_lamMetX fun _ => er_makeKw (ds := [.int 4]) (ea_cons ev_int ea_nil) rfl fun v => .no bad_2 (by show 1 ≤ 1000; decide)
        apply ea_cons
        · exact ev_lamMetX fun _ => er_makeKw (ds := [.bool true]) (ea_cons ev_bl ea_nil) rfl fun v => .no bad_3 (by show 1 ≤ 1000; decide)
        exact ea_nil
      · exact le_size (by simp)
    · exact le_size (by simp)
  walk_at "d"
  have due : ∀ {s : S}, Ev K (tCall (spF K (R__law_due K C T)) [] E (tCons (tCB (rDictP K) (tCons (tCall (spF K (R__law_l_table K C T)) [] E tNil) tNil)) tNil)) s (.str (dueS (pF dfP))) s := by
    intro s
    refine ev_call (ea_cons (ev_dictO (ds := aKV (pF dfP)) ?_) ea_nil) (.mk fun _ _ => rfl)
    exact eo_dictP (ps := toK (plPs dfP)) (ev_call (ds := []) ea_nil .mk) tk_nodup
  apply run_seq
  · refine run_no (s1 := ⟨[.dat (scrD ns), .unk, .dat (.list ([.str "kopies", .str "kopies", .str "rows"] ++ [.str "Gap", .str "trips", .str "crews"])), .unk], T⟩) (EvT.to (et_or (a := false) (b := false) ?_ fun _ => ne_due (s := ⟨[.dat (scrD ns), .unk, .dat (.list ([.str "kopies", .str "kopies", .str "rows"] ++ [.str "Gap", .str "trips", .str "crews"])), .unk], T⟩) (f := pF dfP) (C := C) (T := T) (t := fun E' => tMakeKw (C "Plan") [] (spF K (R_Plan___init__ P w K C T)) E' tNil) (fun q hq e E => ?_) (fun i hb E => ?_) due) rfl) run_next
    · refine EvT.to (et_test (ev_neT (s1 := ⟨[.dat (scrD ns), .unk, .dat (.list ([.str "kopies", .str "kopies", .str "rows"] ++ [.str "Gap", .str "trips", .str "crews"])), .unk], T⟩) (x := .list ([.str "kopies", .str "kopies", .str "rows"] ++ [.str "Gap", .str "trips", .str "crews"])) (y := .list [.str "kopies", .str "kopies", .str "rows", .str "Gap", .str "trips", .str "crews"]) (ev_var rfl) (ev_lst (ea_cons ev_str (ea_cons ev_str (ea_cons ev_str (ea_cons ev_str (ea_cons ev_str (ea_cons ev_str ea_nil)))))) (le_size (by simp))) ⟨by kernel_rfl, by kernel_rfl⟩)) (by kernel_rfl)
    · have : q = dfP := by
        rw [aKV_pl] at e
        cases q
        simp only [plKV, dfP, List.cons.injEq, Prod.mk.injEq, PyData.int.injEq, true_and, and_true] at e
        obtain ⟨h1, h2, h3, h4, h5, h6, h7, h8, h9, h10, h11, h12, h13, h14, h15⟩ := e
        subst h1 h2 h3 h4 h5 h6 h7 h8 h9 h10 h11 h12 h13 h14 h15
        rfl
      subst this
      exact ev_plan0
    · rw [pl_good df_ok] at hb; cases hb
  refine run_rtle (s1 := ⟨[.dat (scrD ns), .unk, .dat (.list ([.str "kopies", .str "kopies", .str "rows"] ++ [.str "Gap", .str "trips", .str "crews"])), .unk], T⟩) (run_ret ?_) (Fo.le (by walk_at "fo"))
  refine Ev.to (ev_eqT (x := .tuple (chNames.map PyData.str)) (y := .tuple (chNames.map PyData.str)) (s1 := ⟨[.dat (scrD ns), .unk, .dat (.list ([.str "kopies", .str "kopies", .str "rows"] ++ [.str "Gap", .str "trips", .str "crews"])), .unk], T⟩) (ev_const hk.ch) ?_ ⟨by kernel_rfl, by kernel_rfl⟩) (by kernel_rfl)
  refine ev_tupL (ds := chNames.map PyData.str) (Ev.to (ev_lcM (fun d => match d with | .tuple [.str n, .int _] => .str n | _ => .none) (it_seq (ev_call (ds := []) ea_nil .mk) rfl) (le_size (by decide)) (by walk_at "nr") fun d hd => ?_) (by kernel_rfl))
  obtain ⟨i, hi, rfl⟩ := tb_mem hd
  refine ⟨_, tv_name (by simp), Fo.le (by walk_at "fo"), ?_⟩
  exact ev_ixT (ds := [.str (cN i), .int (cDf i)]) (ev_var rfl) ev_int rfl
end K11

namespace K11
open PySem PySem.Spec PyProof.Rows L2 DL CM LamX
def top (i : Nat) : Stmt := PySem.Challenge.pw_streetslit_k11_plans_made_and_refused.main.body.getD i (.Pass ⟨0, 0, 0, 0⟩)
abbrev s_Plan : Stmt := top 12
abbrev s_is_integer : Stmt := top 4
abbrev s_is_in : Stmt := top 5
abbrev s_in_table : Stmt := top 10
abbrev s_chosen : Stmt := top 11
abbrev s_Plan___init__ : Stmt := inClass s_Plan 0
abbrev s_Plan_row : Stmt := inClass s_Plan 1
abbrev s_Plan___eq__ : Stmt := inClass s_Plan 2
abbrev s_Plan_changed : Stmt := inClass s_Plan 3
abbrev s__law_dice : Stmt := top 14
abbrev s__law_roll : Stmt := top 15
abbrev s__law_pick : Stmt := top 16
abbrev s__law_odd_values : Stmt := top 17
abbrev s__law_l_choices : Stmt := top 18
abbrev s__law_l_wide : Stmt := top 19
abbrev s__law_l_plan : Stmt := top 20
abbrev s__law_l_table : Stmt := top 21
abbrev s__law_l_first_bad : Stmt := top 22
abbrev s__law_l_with : Stmt := top 23
abbrev s__law_met : Stmt := top 24
abbrev s__law_due : Stmt := top 25
abbrev s__law_value : Stmt := top 26
abbrev s__law_is_own : Stmt := top 27
abbrev s__law_right : Stmt := top 28
abbrev s_law : Stmt := top 29
theorem sc_is_integer : FnScope ["value"] ["value"] (defScope s_is_integer) := ⟨rfl, rfl, rfl, by decide +kernel, rfl, by decide +kernel, by decide +kernel⟩
theorem sc_is_in : FnScope ["value", "low", "high"] ["value", "low", "high"] (defScope s_is_in) := ⟨rfl, rfl, rfl, by decide +kernel, rfl, by decide +kernel, by decide +kernel⟩
theorem sc_in_table : FnScope ["name", "value", "low", "high"] ["name", "value"] (defScope s_in_table) := ⟨rfl, rfl, rfl, by decide +kernel, rfl, by decide +kernel, by decide +kernel⟩
theorem sc_chosen : FnScope ["choices", "name", "found"] ["choices"] (defScope s_chosen) := ⟨rfl, rfl, rfl, by decide +kernel, rfl, by decide +kernel, by decide +kernel⟩
theorem sc_Plan___init__ : FnScope ["self", "choices", "found"] ["self", "choices"] (defScope s_Plan___init__) := ⟨rfl, rfl, rfl, by decide +kernel, rfl, by decide +kernel, by decide +kernel⟩
theorem sc_Plan_row : FnScope ["self", "name"] ["self"] (defScope s_Plan_row) := ⟨rfl, rfl, rfl, by decide +kernel, rfl, by decide +kernel, by decide +kernel⟩
theorem sc_Plan___eq__ : FnScope ["self", "other"] ["self", "other"] (defScope s_Plan___eq__) := ⟨rfl, rfl, rfl, by decide +kernel, rfl, by decide +kernel, by decide +kernel⟩
theorem sc_Plan_changed : FnScope ["self", "choices", "merged"] ["self", "choices"] (defScope s_Plan_changed) := ⟨rfl, rfl, rfl, by decide +kernel, rfl, by decide +kernel, by decide +kernel⟩
theorem sc__law_dice : FnScope ["script", "spot", "own", "mixed", "cell"] ["script", "spot"] (defScope s__law_dice) := ⟨rfl, rfl, rfl, by decide +kernel, rfl, by decide +kernel, by decide +kernel⟩
theorem sc__law_roll : FnScope ["dice", "total", "found"] ["dice", "total"] (defScope s__law_roll) := ⟨rfl, rfl, rfl, by decide +kernel, rfl, by decide +kernel, by decide +kernel⟩
theorem sc__law_pick : FnScope ["dice", "things"] ["dice", "things"] (defScope s__law_pick) := ⟨rfl, rfl, rfl, by decide +kernel, rfl, by decide +kernel, by decide +kernel⟩
theorem sc__law_odd_values : FnScope ["dice", "number", "found"] ["dice"] (defScope s__law_odd_values) := ⟨rfl, rfl, rfl, by decide +kernel, rfl, by decide +kernel, by decide +kernel⟩
theorem sc__law_l_choices : FnScope ["dice", "found"] ["dice"] (defScope s__law_l_choices) := ⟨rfl, rfl, rfl, by decide +kernel, rfl, by decide +kernel, by decide +kernel⟩
theorem sc__law_l_wide : FnScope ["dice", "found"] ["dice"] (defScope s__law_l_wide) := ⟨rfl, rfl, rfl, by decide +kernel, rfl, by decide +kernel, by decide +kernel⟩
theorem sc__law_l_plan : FnScope ["own"] ["own"] (defScope s__law_l_plan) := ⟨rfl, rfl, rfl, by decide +kernel, rfl, by decide +kernel, by decide +kernel⟩
theorem sc__law_l_table : FnScope ["found"] [] (defScope s__law_l_table) := ⟨rfl, rfl, rfl, by decide +kernel, rfl, by decide +kernel, by decide +kernel⟩
theorem sc__law_l_first_bad : FnScope ["found", "most", "name", "default", "value", "least"] ["found"] (defScope s__law_l_first_bad) := ⟨rfl, rfl, rfl, by decide +kernel, rfl, by decide +kernel, by decide +kernel⟩
theorem sc__law_l_with : FnScope ["plan", "name", "value"] ["plan", "name", "value"] (defScope s__law_l_with) := ⟨rfl, rfl, rfl, by decide +kernel, rfl, by decide +kernel, by decide +kernel⟩
theorem sc__law_met : FnScope ["call", "e"] ["call"] (defScope s__law_met) := ⟨rfl, rfl, rfl, by decide +kernel, rfl, by decide +kernel, by decide +kernel⟩
theorem sc__law_due : FnScope ["found", "bad", "name", "default"] ["found"] (defScope s__law_due) := ⟨rfl, rfl, rfl, by decide +kernel, rfl, by decide +kernel, by decide +kernel⟩
theorem sc__law_value : FnScope ["dice", "own", "name"] ["dice", "own", "name"] (defScope s__law_value) := ⟨rfl, rfl, rfl, by decide +kernel, rfl, by decide +kernel, by decide +kernel⟩
theorem sc__law_is_own : FnScope ["plan", "found", "told", "name", "default"] ["plan", "found"] (defScope s__law_is_own) := ⟨rfl, rfl, rfl, by decide +kernel, rfl, by decide +kernel, by decide +kernel⟩
theorem sc__law_right : FnScope ["dice", "own", "turn", "found", "name", "other", "plan"] ["dice"] (defScope s__law_right) := ⟨rfl, rfl, rfl, by decide +kernel, rfl, by decide +kernel, by decide +kernel⟩
theorem sc_law : FnScope ["script", "spot", "told", "pair"] ["script"] (defScope s_law) := ⟨rfl, rfl, rfl, by decide +kernel, rfl, by decide +kernel, by decide +kernel⟩
structure Ad where
  C : Str → Addr
  I_BadPlan : Addr
  a_is_integer : Addr
  fd_is_integer : FuncData
  a_is_in : Addr
  fd_is_in : FuncData
  a_in_table : Addr
  fd_in_table : FuncData
  a_chosen : Addr
  fd_chosen : FuncData
  a_Plan___init__ : Addr
  a_Plan_row : Addr
  fd_Plan_row : FuncData
  a_Plan___eq__ : Addr
  fd_Plan___eq__ : FuncData
  a_Plan_changed : Addr
  a__law_dice : Addr
  fd__law_dice : FuncData
  a__law_roll : Addr
  fd__law_roll : FuncData
  a__law_pick : Addr
  fd__law_pick : FuncData
  a__law_odd_values : Addr
  fd__law_odd_values : FuncData
  a__law_l_choices : Addr
  fd__law_l_choices : FuncData
  a__law_l_wide : Addr
  fd__law_l_wide : FuncData
  a__law_l_plan : Addr
  fd__law_l_plan : FuncData
  a__law_l_table : Addr
  fd__law_l_table : FuncData
  a__law_l_first_bad : Addr
  fd__law_l_first_bad : FuncData
  a__law_l_with : Addr
  fd__law_l_with : FuncData
  a__law_met : Addr
  fd__law_met : FuncData
  a__law_due : Addr
  fd__law_due : FuncData
  a__law_value : Addr
  fd__law_value : FuncData
  a__law_is_own : Addr
  fd__law_is_own : FuncData
  a__law_right : Addr
  fd__law_right : FuncData
  a_law : Addr
  fd_law : FuncData
  c__law_right : Addr
  p__law_right : Addr
  c_law : Addr
  p_law : Addr
  v_DEFAULTS : Value
  v_CHOICES : Value
  v_BOUNDS : Value
def Ad.T (A : Ad) : List (Addr × Str) := [(A.p__law_right, ("_law_right.<locals>." : Str) ++ "<lambda>"), (A.p_law, ("law.<locals>." : Str) ++ "<lambda>")]
structure Tx (P : Program) (w : World) (K : PySem.W.Frag) (mg : Str → Option Value) (A : Ad) : Prop where
  x_BadPlan : BX.ExTxt P K mg "BadPlan" "name" (A.C "BadPlan") A.I_BadPlan
  te_BadPlan : PySem.W.exmOne K (.ref (A.C "BadPlan")) (.ref (A.C "BadPlan")) = some true
  n_ValueError : mg "ValueError" = none
  n_abs : mg "abs" = none
  n_bool : mg "bool" = none
  n_dict : mg "dict" = none
  n_int : mg "int" = none
  n_isinstance : mg "isinstance" = none
  n_len : mg "len" = none
  n_list : mg "list" = none
  n_max : mg "max" = none
  n_min : mg "min" = none
  n_range : mg "range" = none
  n_repr : mg "repr" = none
  n_tuple : mg "tuple" = none
  g_Plan : mg "Plan" = some (.ref (A.C "Plan"))
  cl_Plan : Cls K (A.C "Plan")
  mk_Plan : Mk K (A.C "Plan") A.a_Plan___init__
  me_Plan_row : Meth K (A.C "Plan") "row" A.a_Plan_row
  me_Plan___eq__ : Meth K (A.C "Plan") "__eq__" A.a_Plan___eq__
  me_Plan_changed : Meth K (A.C "Plan") "changed" A.a_Plan_changed
  xc_BadPlan : KwX.ExcCh K (A.C "BadPlan")
  pk : CM.Pk P w K A.C
  ne_Plan : GdX.NeC K (A.C "Plan")
  mx : GdX.MetX K mg (A.C "BadPlan") (A.C "LightError")
  g_is_integer : mg "is_integer" = some (.ref A.a_is_integer)
  F_is_integer : Fun K "is_integer" "is_integer" s_is_integer A.a_is_integer A.fd_is_integer
  b_is_integer : L2.Binds K A.fd_is_integer ["value"] []
  g_is_in : mg "is_in" = some (.ref A.a_is_in)
  F_is_in : Fun K "is_in" "is_in" s_is_in A.a_is_in A.fd_is_in
  b_is_in : L2.Binds K A.fd_is_in ["value", "low", "high"] []
  g_in_table : mg "in_table" = some (.ref A.a_in_table)
  F_in_table : Fun K "in_table" "in_table" s_in_table A.a_in_table A.fd_in_table
  b_in_table : L2.Binds K A.fd_in_table ["name", "value"] []
  g_chosen : mg "chosen" = some (.ref A.a_chosen)
  F_chosen : Fun K "chosen" "chosen" s_chosen A.a_chosen A.fd_chosen
  b_chosen : L2.Binds K A.fd_chosen ["choices"] []
  F_Plan___init__ : KwX.FunK K "__init__" "Plan.__init__" s_Plan___init__ A.a_Plan___init__
  F_Plan_row : Fun K "row" "Plan.row" s_Plan_row A.a_Plan_row A.fd_Plan_row
  b_Plan_row : L2.Binds K A.fd_Plan_row ["self"] []
  F_Plan___eq__ : Fun K "__eq__" "Plan.__eq__" s_Plan___eq__ A.a_Plan___eq__ A.fd_Plan___eq__
  b_Plan___eq__ : L2.Binds K A.fd_Plan___eq__ ["self", "other"] []
  F_Plan_changed : KwX.FunK K "changed" "Plan.changed" s_Plan_changed A.a_Plan_changed
  g__law_dice : mg "_law_dice" = some (.ref A.a__law_dice)
  F__law_dice : Fun K "_law_dice" "_law_dice" s__law_dice A.a__law_dice A.fd__law_dice
  b__law_dice : L2.Binds K A.fd__law_dice ["script", "spot"] []
  g__law_roll : mg "_law_roll" = some (.ref A.a__law_roll)
  F__law_roll : Fun K "_law_roll" "_law_roll" s__law_roll A.a__law_roll A.fd__law_roll
  b__law_roll : L2.Binds K A.fd__law_roll ["dice", "total"] []
  g__law_pick : mg "_law_pick" = some (.ref A.a__law_pick)
  F__law_pick : Fun K "_law_pick" "_law_pick" s__law_pick A.a__law_pick A.fd__law_pick
  b__law_pick : L2.Binds K A.fd__law_pick ["dice", "things"] []
  g__law_odd_values : mg "_law_odd_values" = some (.ref A.a__law_odd_values)
  F__law_odd_values : Fun K "_law_odd_values" "_law_odd_values" s__law_odd_values A.a__law_odd_values A.fd__law_odd_values
  b__law_odd_values : L2.Binds K A.fd__law_odd_values ["dice"] []
  g__law_l_choices : mg "_law_l_choices" = some (.ref A.a__law_l_choices)
  F__law_l_choices : Fun K "_law_l_choices" "_law_l_choices" s__law_l_choices A.a__law_l_choices A.fd__law_l_choices
  b__law_l_choices : L2.Binds K A.fd__law_l_choices ["dice"] []
  g__law_l_wide : mg "_law_l_wide" = some (.ref A.a__law_l_wide)
  F__law_l_wide : Fun K "_law_l_wide" "_law_l_wide" s__law_l_wide A.a__law_l_wide A.fd__law_l_wide
  b__law_l_wide : L2.Binds K A.fd__law_l_wide ["dice"] []
  g__law_l_plan : mg "_law_l_plan" = some (.ref A.a__law_l_plan)
  F__law_l_plan : Fun K "_law_l_plan" "_law_l_plan" s__law_l_plan A.a__law_l_plan A.fd__law_l_plan
  b__law_l_plan : L2.Binds K A.fd__law_l_plan ["own"] []
  g__law_l_table : mg "_law_l_table" = some (.ref A.a__law_l_table)
  F__law_l_table : Fun K "_law_l_table" "_law_l_table" s__law_l_table A.a__law_l_table A.fd__law_l_table
  b__law_l_table : L2.Binds K A.fd__law_l_table [] []
  g__law_l_first_bad : mg "_law_l_first_bad" = some (.ref A.a__law_l_first_bad)
  F__law_l_first_bad : Fun K "_law_l_first_bad" "_law_l_first_bad" s__law_l_first_bad A.a__law_l_first_bad A.fd__law_l_first_bad
  b__law_l_first_bad : L2.Binds K A.fd__law_l_first_bad ["found"] []
  g__law_l_with : mg "_law_l_with" = some (.ref A.a__law_l_with)
  F__law_l_with : Fun K "_law_l_with" "_law_l_with" s__law_l_with A.a__law_l_with A.fd__law_l_with
  b__law_l_with : L2.Binds K A.fd__law_l_with ["plan", "name", "value"] []
  g__law_met : mg "_law_met" = some (.ref A.a__law_met)
  F__law_met : Fun K "_law_met" "_law_met" s__law_met A.a__law_met A.fd__law_met
  b__law_met : L2.Binds K A.fd__law_met ["call"] []
  g__law_due : mg "_law_due" = some (.ref A.a__law_due)
  F__law_due : Fun K "_law_due" "_law_due" s__law_due A.a__law_due A.fd__law_due
  b__law_due : L2.Binds K A.fd__law_due ["found"] []
  g__law_value : mg "_law_value" = some (.ref A.a__law_value)
  F__law_value : Fun K "_law_value" "_law_value" s__law_value A.a__law_value A.fd__law_value
  b__law_value : L2.Binds K A.fd__law_value ["dice", "own", "name"] []
  g__law_is_own : mg "_law_is_own" = some (.ref A.a__law_is_own)
  F__law_is_own : Fun K "_law_is_own" "_law_is_own" s__law_is_own A.a__law_is_own A.fd__law_is_own
  b__law_is_own : L2.Binds K A.fd__law_is_own ["plan", "found"] []
  g__law_right : mg "_law_right" = some (.ref A.a__law_right)
  F__law_right : FunC K "_law_right" "_law_right" s__law_right A.a__law_right A.fd__law_right A.c__law_right
  b__law_right : L2.Binds K A.fd__law_right ["dice"] []
  g_law : mg "law" = some (.ref A.a_law)
  F_law : FunC K "law" "law" s_law A.a_law A.fd_law A.c_law
  b_law : L2.Binds K A.fd_law ["script"] []
  c_DEFAULTS : mg "DEFAULTS" = some A.v_DEFAULTS
  r_DEFAULTS : RelV (.ref (A.C "DEFAULTS")) A.v_DEFAULTS
  c_CHOICES : mg "CHOICES" = some A.v_CHOICES
  r_CHOICES : RelV (.ref (A.C "CHOICES")) A.v_CHOICES
  c_BOUNDS : mg "BOUNDS" = some A.v_BOUNDS
  r_BOUNDS : RelV (.ref (A.C "BOUNDS")) A.v_BOUNDS
structure TBs (base : Heap) (mg : Str → Option Value) (A : Ad) : Prop where
  _law_right : TabB base mg A.c__law_right A.p__law_right
  law : TabB base mg A.c_law A.p_law
structure Dif (A : Ad) : Prop where
  d : A.T.Pairwise fun x y => x.1 ≠ y.1
section
variable {P : Program} {w : World} {K : PySem.W.Frag} {mg : Str → Option Value} {base : Heap} {A : Ad}
theorem ok_is_integer (T : Tx P w K mg A) (TBs : TBs base mg A ∧ Dif A) : FnOk P w K mg base (L2.CX P w) 1 A.a_is_integer A.fd_is_integer ["value"] (spF K (R_is_integer K A.C A.T)) := by
  refine T.F_is_integer.okX sc_is_integer (fun vs H Q E h => spf_len (by rintro _ _ ⟨⟩ <;> rfl) h) (fun cdv Ar outer s H vs Q E hr h => ⟨t_is_integer K A.C A.T E, ?_, ?_⟩)
  · exact (pss_one (ps_ret (pe_and (pe_callB call_isi (by rfl) T.n_isinstance (by decide +kernel) (pa_cons (pv 0) (pa_cons (pe_bltn (v := .ty "int") (by rfl) T.n_int (by decide +kernel) rfl) pa_nil))) (pe_one (pe_not (pe_callB call_isi (by rfl) T.n_isinstance (by decide +kernel) (pa_cons (pv 0) (pa_cons (pe_bltn (v := .ty "bool") (by rfl) T.n_bool (by decide +kernel) rfl) pa_nil))))))))
  · refine run_bodyS (n := 1) (by decide) (by rintro _ _ ⟨⟩ <;> rfl) h fun s o hR hv hE => ?_
    obtain ⟨v0, rfl⟩ := len1 hv
    cases hR with
    | mk h => exact ⟨_, rd_is_integer h, .rt (Lv.leave (by walk_at "lv") rfl)⟩
theorem ok_is_in (T : Tx P w K mg A) (TBs : TBs base mg A ∧ Dif A) : FnOk P w K mg base (L2.CX P w) 2 A.a_is_in A.fd_is_in ["value", "low", "high"] (spF K (R_is_in K A.C A.T)) := by
  refine T.F_is_in.okX sc_is_in (fun vs H Q E h => spf_len (by rintro _ _ ⟨⟩ <;> rfl) h) (fun cdv Ar outer s H vs Q E hr h => ⟨t_is_in K A.C A.T E, ?_, ?_⟩)
  · exact (pss_one (ps_ret (pe_and (pe_call (ok_is_integer T TBs) (hr.mono (by decide)) (by rfl) T.g_is_integer T.F_is_integer.kp T.b_is_integer .nil (pass_e (takes_of rfl rfl rfl rfl)) (pa_cons (pv 0) pa_nil)) (pe_one (pe_chain op_leU op_leU (pv 1) (pv 0) (pv 2))))))
  · refine run_bodyS (n := 3) (by decide) (by rintro _ _ ⟨⟩ <;> rfl) h fun s o hR hv hE => ?_
    obtain ⟨v0, v1, v2, rfl⟩ := len3 hv
    cases hR with
    | mk h => exact ⟨_, rd_is_in h, .rt (Lv.leave (by walk_at "lv") rfl)⟩
theorem ok_in_table (T : Tx P w K mg A) (TBs : TBs base mg A ∧ Dif A) : FnOk P w K mg base (L2.CX P w) 3 A.a_in_table A.fd_in_table ["name", "value"] (spF K (R_in_table P w K A.C A.T)) := by
  refine T.F_in_table.okX sc_in_table (fun vs H Q E h => spf_len (by rintro _ _ ⟨⟩ <;> rfl) h) (fun cdv Ar outer s H vs Q E hr h => ⟨t_in_table P w K A.C A.T E, ?_, ?_⟩)
  · exact (pss_cons (ps_asg (pe_ix KwX.ix_DR (pe_glob (by rfl) T.c_BOUNDS T.r_BOUNDS) (pv 0) (fun _ _ => rfl)) (pg_tup rfl (pgs_cons (pg_name (i := 2) sc_in_table.nd rfl (by first | exact Or.inl rfl | exact Or.inr rfl)) (pgs_cons (pg_name (i := 3) sc_in_table.nd rfl (by first | exact Or.inl rfl | exact Or.inr rfl)) pgs_nil))))
      (pss_one (ps_ret (pe_call (ok_is_in T TBs) (hr.mono (by decide)) (by rfl) T.g_is_in T.F_is_in.kp T.b_is_in .nil (pass_e (takes_of rfl rfl rfl rfl)) (pa_cons (pv 1) (pa_cons (pv 2) (pa_cons (pv 3) pa_nil)))))))
  · refine run_bodyS (n := 2) (by decide) (by rintro _ _ ⟨⟩ <;> rfl) h fun s o hR hv hE => ?_
    obtain ⟨v0, v1, rfl⟩ := len2 hv
    cases hR with
    | mk hi hv => exact ⟨_, rd_in_table T.pk hi hv, .rt (Lv.leave (by walk_at "lv") rfl)⟩
theorem ok_chosen (T : Tx P w K mg A) (TBs : TBs base mg A ∧ Dif A) : FnOk P w K mg base (L2.CX P w) 4 A.a_chosen A.fd_chosen ["choices"] (spF K (R_chosen P w K A.C A.T)) := by
  refine T.F_chosen.okX sc_chosen (fun vs H Q E h => spf_len (by rintro _ _ ⟨⟩ <;> rfl) h) (fun cdv Ar outer s H vs Q E hr h => ⟨t_chosen P w K A.C A.T E, ?_, ?_⟩)
  · exact (pss_cons (ps_for (passes_of rfl) rfl (pi_keys (pv 0)) (pg_name (i := 1) sc_chosen.nd rfl (by first | exact Or.inl rfl | exact Or.inr rfl)) (pss_one (ps_if (pt_cmpR KwX.op_ninDR (pv 1) (pe_glob (by rfl) T.c_DEFAULTS T.r_DEFAULTS) rfl) (pss_one (BX.ps_raiseX rfl T.x_BadPlan hr (takes_of rfl rfl rfl rfl) (pa_cons (pv 1) pa_nil))) pss_nil)))
      (pss_cons (ps_set (i := 2) sc_chosen.nd rfl (by first | exact Or.inl rfl | exact Or.inr rfl) (KwX.pe_mrg (pe_glob (by rfl) T.c_DEFAULTS T.r_DEFAULTS) (pv 0)))
      (pss_cons (ps_for (passes_of rfl) rfl (pi_seqU (pe_glob (by rfl) T.c_CHOICES T.r_CHOICES)) (pg_name (i := 1) sc_chosen.nd rfl (by first | exact Or.inl rfl | exact Or.inr rfl)) (pss_one (ps_if (pt_not (pt_val (pe_call (ok_in_table T TBs) (hr.mono (by decide)) (by rfl) T.g_in_table T.F_in_table.kp T.b_in_table .nil (pass_e (takes_of rfl rfl rfl rfl)) (pa_cons (pv 1) (pa_cons (pe_dget (hu1 hr) (pv 2) (pv 1) (fun _ _ => rfl)) pa_nil))))) (pss_one (BX.ps_raiseX rfl T.x_BadPlan hr (takes_of rfl rfl rfl rfl) (pa_cons (pv 1) pa_nil))) pss_nil)))
      (pss_one (ps_ret (pv 2))))))
  · refine run_bodyS (n := 1) (by decide) (by rintro _ _ ⟨⟩ <;> rfl) h fun s o hR hv hE => ?_
    obtain ⟨v0, rfl⟩ := len1 hv
    cases hR with
    | ok h1 hp ok hl => exact ⟨_, rd_chosen T.pk h1 hp ok hl, .rt (Lv.leave (by walk_at "lv") rfl)⟩
    | no h hl => exact ⟨_, rd_chosen_no T.pk h hl, .ex (Lv.leave (by walk_at "lv") rfl)⟩
theorem ok_Plan___init__ (T : Tx P w K mg A) (TBs : TBs base mg A ∧ Dif A) : KwX.FnKw P w K mg base (L2.CX P w) 5 A.a_Plan___init__ "self" (spF K (R_Plan___init__ P w K A.C A.T)) := by
  refine T.F_Plan___init__.okX sc_Plan___init__ rfl rfl rfl rfl rfl rfl (fun cdv Ar outer s H vs Q E hr h => ⟨t_Plan___init__ P w K A.C A.T E, ?_, ?_⟩)
  · exact (pss_cons (ps_set (i := 2) sc_Plan___init__.nd rfl (by first | exact Or.inl rfl | exact Or.inr rfl) (pe_call (ok_chosen T TBs) (hr.mono (by decide)) (by rfl) T.g_chosen T.F_chosen.kp T.b_chosen .nil (pass_e (takes_of rfl rfl rfl rfl)) (pa_cons (pv 1) pa_nil)))
      (pss_cons (ps_fld (pv 0) (pv 2) (by rfl))
      (pss_cons (ps_fld (pv 0) (pe_dget (hu1 hr) (pv 2) pe_str (fun _ _ => rfl)) (by rfl))
      (pss_cons (ps_fld (pv 0) (pe_dget (hu1 hr) (pv 2) pe_str (fun _ _ => rfl)) (by rfl))
      (pss_cons (ps_fld (pv 0) (pe_dget (hu1 hr) (pv 2) pe_str (fun _ _ => rfl)) (by rfl))
      (pss_cons (ps_fld (pv 0) (pe_dget (hu1 hr) (pv 2) pe_str (fun _ _ => rfl)) (by rfl))
      (pss_cons (ps_fld (pv 0) (pe_dget (hu1 hr) (pv 2) pe_str (fun _ _ => rfl)) (by rfl))
      (pss_cons (ps_fld (pv 0) (pe_dget (hu1 hr) (pv 2) pe_str (fun _ _ => rfl)) (by rfl))
      (pss_cons (ps_fld (pv 0) (pe_dget (hu1 hr) (pv 2) pe_str (fun _ _ => rfl)) (by rfl))
      (pss_cons (ps_fld (pv 0) (pe_dget (hu1 hr) (pv 2) pe_str (fun _ _ => rfl)) (by rfl))
      (pss_cons (ps_fld (pv 0) (pe_dget (hu1 hr) (pv 2) pe_str (fun _ _ => rfl)) (by rfl))
      (pss_cons (ps_fld (pv 0) (pe_dget (hu1 hr) (pv 2) pe_str (fun _ _ => rfl)) (by rfl))
      (pss_cons (ps_fld (pv 0) (pe_dget (hu1 hr) (pv 2) pe_str (fun _ _ => rfl)) (by rfl))
      (pss_cons (ps_fld (pv 0) (pe_dget (hu1 hr) (pv 2) pe_str (fun _ _ => rfl)) (by rfl))
      (pss_cons (ps_fld (pv 0) (pe_dget (hu1 hr) (pv 2) pe_str (fun _ _ => rfl)) (by rfl))
      (pss_cons (ps_fld (pv 0) (pe_dget (hu1 hr) (pv 2) pe_str (fun _ _ => rfl)) (by rfl))
      (pss_one (ps_fld (pv 0) (pe_dget (hu1 hr) (pv 2) pe_str (fun _ _ => rfl)) (by rfl)))))))))))))))))))
  · refine run_bodyS (n := 2) (by decide) (by rintro _ _ ⟨⟩ <;> rfl) h fun s o hR hv hE => ?_
    obtain ⟨v0, v1, rfl⟩ := len2 hv
    cases hR with
    | ok h1 hp ok hl => obtain rfl := pin_atI hE; exact ⟨_, rd_Plan___init__ T.pk h1 hp ok hl, .nx (Lv.leave (by walk_at "lv") rfl)⟩
    | no h hl => obtain rfl := pin_atI hE; exact ⟨_, rd_Plan___init___no T.pk h hl, .ex (Lv.leave (by walk_at "lv") rfl)⟩
theorem ok_Plan_row (T : Tx P w K mg A) (TBs : TBs base mg A ∧ Dif A) : FnOk P w K mg base (L2.CX P w) 1 A.a_Plan_row A.fd_Plan_row ["self"] (spF K (R_Plan_row K A.C A.T)) := by
  refine T.F_Plan_row.okX sc_Plan_row (fun vs H Q E h => spf_len (by rintro _ _ ⟨⟩ <;> rfl) h) (fun cdv Ar outer s H vs Q E hr h => ⟨t_Plan_row K A.C A.T E, ?_, ?_⟩)
  · exact (pss_one (ps_ret (pe_callTy call_tupU (by rfl) T.n_tuple (by decide +kernel) (pa_cons (pe_lc (own := [("name", 1)]) rfl sc_Plan_row.nd (pi_seqU (pe_glob (by rfl) T.c_CHOICES T.r_CHOICES)) (blkOk_by (own := [("name", 1)]) (N := ["self", "name"]) (sc := defScope s_Plan_row) (by decide +kernel)) (fun _ _ _ _ _ => (pg_name (i := 1) sc_Plan_row.nd rfl (Or.inl rfl))) (fun _ _ _ _ _ => pts_nil) (fun _ _ _ _ _ => (pe_dget (hu1 hr) (pe_fld (pv 0) (by rfl)) (pv 1) (fun _ _ => rfl)))) pa_nil))))
  · refine run_bodyS (n := 1) (by decide) (by rintro _ _ ⟨⟩ <;> rfl) h fun s o hR hv hE => ?_
    obtain ⟨v0, rfl⟩ := len1 hv
    cases hR with
    | mk => exact ⟨_, rd_Plan_row T.pk, .rt (Lv.leave (by walk_at "lv") rfl)⟩
theorem ok_Plan___eq__ (T : Tx P w K mg A) (TBs : TBs base mg A ∧ Dif A) : FnOk P w K mg base (L2.CX P w) 2 A.a_Plan___eq__ A.fd_Plan___eq__ ["self", "other"] (spF K (R_Plan___eq__ K A.C A.T)) := by
  refine T.F_Plan___eq__.okX sc_Plan___eq__ (fun vs H Q E h => spf_len (by rintro _ _ ⟨⟩ <;> rfl) h) (fun cdv Ar outer s H vs Q E hr h => ⟨t_Plan___eq__ K A.C A.T E, ?_, ?_⟩)
  · exact (pss_one (ps_ret (pe_and (pe_callB call_isi (by rfl) T.n_isinstance (by decide +kernel) (pa_cons (pv 1) (pa_cons (pe_glob (by rfl) T.g_Plan rfl) pa_nil))) (pe_one (pe_cmpR (op_eqU hr.units) (pe_meth0 (pv 0) T.cl_Plan T.me_Plan_row (ok_Plan_row T TBs) (hr.mono (by decide)) T.b_Plan_row .nil (pass_e (takes_of rfl rfl rfl rfl))) (pe_meth0 (pv 1) T.cl_Plan T.me_Plan_row (ok_Plan_row T TBs) (hr.mono (by decide)) T.b_Plan_row .nil (pass_e (takes_of rfl rfl rfl rfl))) (nomark _))))))
  · refine run_bodyS (n := 2) (by decide) (by rintro _ _ ⟨⟩ <;> rfl) h fun s o hR hv hE => ?_
    obtain ⟨v0, v1, rfl⟩ := len2 hv
    cases hR with
    | pl => exact ⟨_, rd_eq_pl T.pk, .rt (Lv.leave (by walk_at "lv") rfl)⟩
    | ot hn => exact ⟨_, rd_eq_ot T.pk hn, .rt (Lv.leave (by walk_at "lv") rfl)⟩
theorem ok_Plan_changed (T : Tx P w K mg A) (TBs : TBs base mg A ∧ Dif A) : KwX.FnKw P w K mg base (L2.CX P w) 7 A.a_Plan_changed "self" (spF K (R_Plan_changed P w K A.C A.T)) := by
  refine T.F_Plan_changed.okX sc_Plan_changed rfl rfl rfl rfl rfl rfl (fun cdv Ar outer s H vs Q E hr h => ⟨t_Plan_changed P w K A.C A.T E, ?_, ?_⟩)
  · exact (pss_cons (ps_set (i := 2) sc_Plan_changed.nd rfl (by first | exact Or.inl rfl | exact Or.inr rfl) (KwX.pe_mrg (pe_fld (pv 0) (by rfl)) (pv 1)))
      (pss_one (ps_ret (KwX.pe_makeDs T.mk_Plan (ok_Plan___init__ T TBs) (hr.mono (by decide)) (by rfl) T.g_Plan (pass_e (takes_of rfl rfl rfl rfl)) (pv 2)))))
  · refine run_bodyS (n := 2) (by decide) (by rintro _ _ ⟨⟩ <;> rfl) h fun s o hR hv hE => ?_
    obtain ⟨v0, v1, rfl⟩ := len2 hv
    cases hR with
    | ok h ok hl => exact ⟨_, rd_Plan_changed T.pk h ok hl, .rt (Lv.leave (by walk_at "lv") rfl)⟩
    | no h hq hs hd hb hl hl2 => exact ⟨_, rd_Plan_changed_no T.pk h hq hs hd hb hl hl2, .ex (Lv.leave (by walk_at "lv") rfl)⟩
theorem ok__law_dice (T : Tx P w K mg A) (TBs : TBs base mg A ∧ Dif A) : FnOk P w K mg base (L2.CX P w) 1 A.a__law_dice A.fd__law_dice ["script", "spot"] (spF K (R__law_dice K A.C A.T)) := by
  refine T.F__law_dice.okX sc__law_dice (fun vs H Q E h => spf_len (by rintro _ _ ⟨⟩ <;> rfl) h) (fun cdv Ar outer s H vs Q E hr h => ⟨t__law_dice K A.C A.T E, ?_, ?_⟩)
  · exact (pss_cons (ps_set (i := 2) sc__law_dice.nd rfl (by first | exact Or.inl rfl | exact Or.inr rfl) (pe_ifExp (pt_cmpR (op_ltU hr.units0) (pv 1) (pe_callB call_lenU (by rfl) T.n_len (by decide +kernel) (pa_cons (pv 0) pa_nil)) (nomark _)) (pe_ix ix_U (pv 0) (pv 1) (fun _ _ => rfl)) (pe_op op_addU (pe_op op_mulV pe_int (pv 1)) pe_int)))
      (pss_cons (ps_set (i := 3) sc__law_dice.nd rfl (by first | exact Or.inl rfl | exact Or.inr rfl) (pe_op op_addU pe_int (pe_op op_mulV pe_int (pv 1))))
      (pss_cons (ps_for (passes_of rfl) rfl (pi_seqU (pe_op op_addU (pe_slice sl_U (pv 0) po_none (po_some pe_int)) (pe_lst (pa_cons (pv 2) pa_nil)))) (pg_name (i := 4) sc__law_dice.nd rfl (by first | exact Or.inl rfl | exact Or.inr rfl)) (pss_one (ps_set (i := 3) sc__law_dice.nd rfl (by first | exact Or.inl rfl | exact Or.inr rfl) (pe_op op_modU (pe_callTy call_intU (by rfl) T.n_int (by decide +kernel) (pa_cons (pe_op op_addU (pe_op op_mulV (pv 3) pe_int) (pe_op op_modU (pe_callTy call_intU (by rfl) T.n_int (by decide +kernel) (pa_cons (pv 4) pa_nil)) pe_int)) pa_nil)) pe_int))))
      (pss_one (ps_ret (pe_lst (pa_cons (pe_ifExp (PW.pt (pw_or (pt_cmpR (op_ltU hr.units0) (pv 2) pe_int (nomark _)) (pw_or1 (pt_cmpR op_geU (pv 2) (pe_op op_powU pe_int pe_int) (nomark _))))) (pe_callB call_absU (by rfl) T.n_abs (by decide +kernel) (pa_cons (pv 2) pa_nil)) pe_int) (pa_cons (pv 3) (pa_cons pe_int pa_nil)))))))))
  · refine run_bodyS (n := 2) (by decide) (by rintro _ _ ⟨⟩ <;> rfl) h fun s o hR hv hE => ?_
    obtain ⟨v0, v1, rfl⟩ := len2 hv
    cases hR with
    | mk h => obtain ⟨s1, hr1, hg⟩ := (rd__law_dice h); exact ⟨_, hr1, .ro (Lv.leave (by walk_at "lv") hg.symm)⟩
theorem ok__law_roll (T : Tx P w K mg A) (TBs : TBs base mg A ∧ Dif A) : FnOk P w K mg base (L2.CX P w) 1 A.a__law_roll A.fd__law_roll ["dice", "total"] (spF K (R__law_roll K A.C A.T)) := by
  refine T.F__law_roll.okX sc__law_roll (fun vs H Q E h => spf_len (by rintro _ _ ⟨⟩ <;> rfl) h) (fun cdv Ar outer s H vs Q E hr h => ⟨t__law_roll K A.C A.T E, ?_, ?_⟩)
  · exact (pss_cons (ps_if (pt_cmpR op_gtU (pe_ix ix_U (pv 0) pe_int (fun _ _ => rfl)) pe_int (nomark _)) (pss_cons (ps_set (i := 2) sc__law_roll.nd rfl (by first | exact Or.inl rfl | exact Or.inr rfl) (pe_op op_modU (pe_callTy call_intU (by rfl) T.n_int (by decide +kernel) (pa_cons (pe_ix ix_U (pv 0) pe_int (fun _ _ => rfl)) pa_nil)) (pv 1)))
      (pss_cons (ps_asg (pe_op op_divU (pe_ix ix_U (pv 0) pe_int (fun _ _ => rfl)) (pv 1)) (pg_sub (pv 0) pe_int set_list))
      (pss_one (ps_ret (pv 2))))) pss_nil)
      (pss_cons (ps_asg (pe_op op_addU (pe_ix ix_U (pv 0) pe_int (fun _ _ => rfl)) pe_int) (pg_sub (pv 0) pe_int set_list))
      (pss_cons (ps_asg (pe_op op_modU (pe_callTy call_intU (by rfl) T.n_int (by decide +kernel) (pa_cons (pe_op op_addU (pe_op op_addU (pe_op op_mulV (pe_ix ix_U (pv 0) pe_int (fun _ _ => rfl)) pe_int) (pe_op op_mulV (pe_op op_mulV (pe_ix ix_U (pv 0) pe_int (fun _ _ => rfl)) (pe_ix ix_U (pv 0) pe_int (fun _ _ => rfl))) pe_int)) pe_int) pa_nil)) pe_int) (pg_sub (pv 0) pe_int set_list))
      (pss_one (ps_ret (pe_op op_modU (pe_callTy call_intU (by rfl) T.n_int (by decide +kernel) (pa_cons (pe_op op_divU (pe_ix ix_U (pv 0) pe_int (fun _ _ => rfl)) pe_int) pa_nil)) (pv 1)))))))
  · refine run_bodyS (n := 2) (by decide) (by rintro _ _ ⟨⟩ <;> rfl) h fun s o hR hv hE => ?_
    obtain ⟨v0, v1, rfl⟩ := len2 hv
    cases hR with
    | mk h1 h2 h3 h4 => obtain rfl := pin_at hE; obtain ⟨s1, hr1, hs, hg⟩ := (rd__law_roll h1 h2 h3 h4); exact ⟨_, hr1, .rt (Lv.leave (by walk_at "lv") hg.symm)⟩
theorem ok__law_pick (T : Tx P w K mg A) (TBs : TBs base mg A ∧ Dif A) : FnOk P w K mg base (L2.CX P w) 2 A.a__law_pick A.fd__law_pick ["dice", "things"] (spF K (R__law_pick K A.C A.T)) := by
  refine T.F__law_pick.okX sc__law_pick (fun vs H Q E h => spf_len (by rintro _ _ ⟨⟩ <;> rfl) h) (fun cdv Ar outer s H vs Q E hr h => ⟨t__law_pick K A.C A.T E, ?_, ?_⟩)
  · exact (pss_one (ps_ret (pe_ix ix_U (pv 1) (pe_call (ok__law_roll T TBs) (hr.mono (by decide)) (by rfl) T.g__law_roll T.F__law_roll.kp T.b__law_roll .nil (pass_e (takes_of rfl rfl rfl rfl)) (pa_cons (pv 0) (pa_cons (pe_callB call_lenU (by rfl) T.n_len (by decide +kernel) (pa_cons (pv 1) pa_nil)) pa_nil))) (fun _ _ => rfl))))
  · refine run_bodyS (n := 2) (by decide) (by rintro _ _ ⟨⟩ <;> rfl) h fun s o hR hv hE => ?_
    obtain ⟨v0, v1, rfl⟩ := len2 hv
    cases hR with
    | mk h1 h2 h3 h4 => obtain rfl := pin_at hE; exact ⟨_, rd__law_pick h1 h2 h3 h4, .rt (Lv.leave (by walk_at "lv") rfl)⟩
theorem ok__law_odd_values (T : Tx P w K mg A) (TBs : TBs base mg A ∧ Dif A) : FnOk P w K mg base (L2.CX P w) 2 A.a__law_odd_values A.fd__law_odd_values ["dice"] (spF K (R__law_odd_values K A.C A.T)) := by
  refine T.F__law_odd_values.okX sc__law_odd_values (fun vs H Q E h => spf_len (by rintro _ _ ⟨⟩ <;> rfl) h) (fun cdv Ar outer s H vs Q E hr h => ⟨t__law_odd_values K A.C A.T E, ?_, ?_⟩)
  · exact (pss_cons (ps_set (i := 1) sc__law_odd_values.nd rfl (by first | exact Or.inl rfl | exact Or.inr rfl) (pe_call (ok__law_roll T TBs) (hr.mono (by decide)) (by rfl) T.g__law_roll T.F__law_roll.kp T.b__law_roll .nil (pass_e (takes_of rfl rfl rfl rfl)) (pa_cons (pv 0) (pa_cons pe_int pa_nil))))
      (pss_cons (ps_set (i := 2) sc__law_odd_values.nd rfl (by first | exact Or.inl rfl | exact Or.inr rfl) (pe_lst (pa_cons pe_non (pa_cons pe_bl (pa_cons pe_bl (pa_cons (pe_op op_subU (pe_un un_negU pe_int) (pv 1)) (pa_cons (pe_op op_addU (pe_op op_powU pe_int pe_int) (pv 1)) (pa_cons pe_str (pa_cons pe_str (pa_cons pe_str (pa_cons pe_str (pa_cons (pe_tup pa_nil) (pa_cons (pe_lst pa_nil) (pa_cons pe_dnewK (pa_cons (pe_tup (pa_cons (pe_tup pa_nil) pa_nil)) (pa_cons (pe_lst (pa_cons (pv 1) pa_nil)) (pa_cons (pe_disp (pps_cons pe_str (pv 1) pps_nil) (by rfl) (by rfl) (fun z => by cases z) (by decide)) pa_nil)))))))))))))))))
      (pss_one (ps_ret (pe_op op_addU (pv 2) (pe_lst (pa_cons (pe_tup (pa_cons pe_non (pa_cons (pv 1) pa_nil))) (pa_cons pe_str (pa_cons (pe_tup (pa_cons pe_str pa_nil)) (pa_cons (pe_tup (pa_cons (pe_tup (pa_cons pe_str (pa_cons pe_int pa_nil))) pa_nil)) (pa_cons pe_str (pa_cons (pe_lst (pa_cons (pe_lst pa_nil) pa_nil)) (pa_cons (pe_disp (pps_cons pe_str pe_int pps_nil) (by rfl) (by rfl) (fun z => by cases z) (by decide)) pa_nil)))))))))))))
  · refine run_bodyS (n := 1) (by decide) (by rintro _ _ ⟨⟩ <;> rfl) h fun s o hR hv hE => ?_
    obtain ⟨v0, rfl⟩ := len1 hv
    cases hR with
    | mk hd hn => obtain rfl := pin_at hE; exact ⟨_, rd__law_odd_values hd hn, .rt (Lv.leave (by walk_at "lv") rfl)⟩
theorem ok__law_l_choices (T : Tx P w K mg A) (TBs : TBs base mg A ∧ Dif A) : FnOk P w K mg base (L2.CX P w) 3 A.a__law_l_choices A.fd__law_l_choices ["dice"] (spF K (R__law_l_choices K A.C A.T)) := by
  refine T.F__law_l_choices.okX sc__law_l_choices (fun vs H Q E h => spf_len (by rintro _ _ ⟨⟩ <;> rfl) h) (fun cdv Ar outer s H vs Q E hr h => ⟨t__law_l_choices K A.C A.T E, ?_, ?_⟩)
  · exact (pss_cons (ps_set (i := 1) sc__law_l_choices.nd rfl (by first | exact Or.inl rfl | exact Or.inr rfl) (pe_disp (pps_cons pe_str (pe_call (ok__law_pick T TBs) (hr.mono (by decide)) (by rfl) T.g__law_pick T.F__law_pick.kp T.b__law_pick .nil (pass_e (takes_of rfl rfl rfl rfl)) (pa_cons (pv 0) (pa_cons (pe_lst (pa_cons pe_int (pa_cons pe_int (pa_cons pe_int (pa_cons pe_int pa_nil))))) pa_nil))) (pps_cons pe_str (pe_op op_addU pe_int (pe_call (ok__law_roll T TBs) (hr.mono (by decide)) (by rfl) T.g__law_roll T.F__law_roll.kp T.b__law_roll .nil (pass_e (takes_of rfl rfl rfl rfl)) (pa_cons (pv 0) (pa_cons pe_int pa_nil)))) (pps_cons pe_str (pe_op op_addU pe_int (pe_call (ok__law_roll T TBs) (hr.mono (by decide)) (by rfl) T.g__law_roll T.F__law_roll.kp T.b__law_roll .nil (pass_e (takes_of rfl rfl rfl rfl)) (pa_cons (pv 0) (pa_cons pe_int pa_nil)))) (pps_cons pe_str (pe_op op_addU pe_int (pe_call (ok__law_roll T TBs) (hr.mono (by decide)) (by rfl) T.g__law_roll T.F__law_roll.kp T.b__law_roll .nil (pass_e (takes_of rfl rfl rfl rfl)) (pa_cons (pv 0) (pa_cons pe_int pa_nil)))) pps_nil)))) (by rfl) (by rfl) (fun z => by cases z) (by decide)))
      (pss_cons (ps_asg (pe_op op_addU pe_int (pe_call (ok__law_roll T TBs) (hr.mono (by decide)) (by rfl) T.g__law_roll T.F__law_roll.kp T.b__law_roll .nil (pass_e (takes_of rfl rfl rfl rfl)) (pa_cons (pv 0) (pa_cons pe_int pa_nil)))) (pg_sub (pv 1) pe_str (set_dict (hu1 hr))))
      (pss_cons (ps_asg (pe_call (ok__law_roll T TBs) (hr.mono (by decide)) (by rfl) T.g__law_roll T.F__law_roll.kp T.b__law_roll .nil (pass_e (takes_of rfl rfl rfl rfl)) (pa_cons (pv 0) (pa_cons pe_int pa_nil))) (pg_sub (pv 1) pe_str (set_dict (hu1 hr))))
      (pss_cons (ps_asg (pe_op op_addU pe_int (pe_call (ok__law_roll T TBs) (hr.mono (by decide)) (by rfl) T.g__law_roll T.F__law_roll.kp T.b__law_roll .nil (pass_e (takes_of rfl rfl rfl rfl)) (pa_cons (pv 0) (pa_cons pe_int pa_nil)))) (pg_sub (pv 1) pe_str (set_dict (hu1 hr))))
      (pss_cons (ps_asg (pe_op op_addU pe_int (pe_call (ok__law_roll T TBs) (hr.mono (by decide)) (by rfl) T.g__law_roll T.F__law_roll.kp T.b__law_roll .nil (pass_e (takes_of rfl rfl rfl rfl)) (pa_cons (pv 0) (pa_cons pe_int pa_nil)))) (pg_sub (pv 1) pe_str (set_dict (hu1 hr))))
      (pss_cons (ps_asg (pe_op op_addU pe_int (pe_call (ok__law_roll T TBs) (hr.mono (by decide)) (by rfl) T.g__law_roll T.F__law_roll.kp T.b__law_roll .nil (pass_e (takes_of rfl rfl rfl rfl)) (pa_cons (pv 0) (pa_cons pe_int pa_nil)))) (pg_sub (pv 1) pe_str (set_dict (hu1 hr))))
      (pss_cons (ps_asg (pe_call (ok__law_pick T TBs) (hr.mono (by decide)) (by rfl) T.g__law_pick T.F__law_pick.kp T.b__law_pick .nil (pass_e (takes_of rfl rfl rfl rfl)) (pa_cons (pv 0) (pa_cons (pe_lst (pa_cons pe_int (pa_cons pe_int (pa_cons pe_int (pa_cons pe_int (pa_cons pe_int (pa_cons pe_int pa_nil))))))) pa_nil))) (pg_sub (pv 1) pe_str (set_dict (hu1 hr))))
      (pss_cons (ps_asg (pe_call (ok__law_roll T TBs) (hr.mono (by decide)) (by rfl) T.g__law_roll T.F__law_roll.kp T.b__law_roll .nil (pass_e (takes_of rfl rfl rfl rfl)) (pa_cons (pv 0) (pa_cons pe_int pa_nil))) (pg_sub (pv 1) pe_str (set_dict (hu1 hr))))
      (pss_cons (ps_asg (pe_call (ok__law_roll T TBs) (hr.mono (by decide)) (by rfl) T.g__law_roll T.F__law_roll.kp T.b__law_roll .nil (pass_e (takes_of rfl rfl rfl rfl)) (pa_cons (pv 0) (pa_cons pe_int pa_nil))) (pg_sub (pv 1) pe_str (set_dict (hu1 hr))))
      (pss_cons (ps_asg (pe_call (ok__law_roll T TBs) (hr.mono (by decide)) (by rfl) T.g__law_roll T.F__law_roll.kp T.b__law_roll .nil (pass_e (takes_of rfl rfl rfl rfl)) (pa_cons (pv 0) (pa_cons pe_int pa_nil))) (pg_sub (pv 1) pe_str (set_dict (hu1 hr))))
      (pss_cons (ps_asg (pe_call (ok__law_roll T TBs) (hr.mono (by decide)) (by rfl) T.g__law_roll T.F__law_roll.kp T.b__law_roll .nil (pass_e (takes_of rfl rfl rfl rfl)) (pa_cons (pv 0) (pa_cons pe_int pa_nil))) (pg_sub (pv 1) pe_str (set_dict (hu1 hr))))
      (pss_cons (ps_asg (pe_call (ok__law_roll T TBs) (hr.mono (by decide)) (by rfl) T.g__law_roll T.F__law_roll.kp T.b__law_roll .nil (pass_e (takes_of rfl rfl rfl rfl)) (pa_cons (pv 0) (pa_cons pe_int pa_nil))) (pg_sub (pv 1) pe_str (set_dict (hu1 hr))))
      (pss_one (ps_ret (pv 1)))))))))))))))
  · refine run_bodyS (n := 1) (by decide) (by rintro _ _ ⟨⟩ <;> rfl) h fun s o hR hv hE => ?_
    obtain ⟨v0, rfl⟩ := len1 hv
    cases hR with
    | mk h0 h1 => obtain rfl := pin_at hE; exact ⟨_, rd__law_l_choices h0 h1, .rt (Lv.leave (by walk_at "lv") rfl)⟩
theorem ok__law_l_wide (T : Tx P w K mg A) (TBs : TBs base mg A ∧ Dif A) : FnOk P w K mg base (L2.CX P w) 3 A.a__law_l_wide A.fd__law_l_wide ["dice"] (spF K (R__law_l_wide K A.C A.T)) := by
  refine T.F__law_l_wide.okX sc__law_l_wide (fun vs H Q E h => spf_len (by rintro _ _ ⟨⟩ <;> rfl) h) (fun cdv Ar outer s H vs Q E hr h => ⟨t__law_l_wide K A.C A.T E, ?_, ?_⟩)
  · exact (pss_cons (ps_set (i := 1) sc__law_l_wide.nd rfl (by first | exact Or.inl rfl | exact Or.inr rfl) (pe_disp (pps_cons pe_str (pe_op op_addU pe_int (pe_call (ok__law_roll T TBs) (hr.mono (by decide)) (by rfl) T.g__law_roll T.F__law_roll.kp T.b__law_roll .nil (pass_e (takes_of rfl rfl rfl rfl)) (pa_cons (pv 0) (pa_cons pe_int pa_nil)))) (pps_cons pe_str (pe_op op_addU pe_int (pe_call (ok__law_roll T TBs) (hr.mono (by decide)) (by rfl) T.g__law_roll T.F__law_roll.kp T.b__law_roll .nil (pass_e (takes_of rfl rfl rfl rfl)) (pa_cons (pv 0) (pa_cons pe_int pa_nil)))) (pps_cons pe_str (pe_op op_addU pe_int (pe_call (ok__law_roll T TBs) (hr.mono (by decide)) (by rfl) T.g__law_roll T.F__law_roll.kp T.b__law_roll .nil (pass_e (takes_of rfl rfl rfl rfl)) (pa_cons (pv 0) (pa_cons pe_int pa_nil)))) (pps_cons pe_str (pe_op op_addU pe_int (pe_call (ok__law_roll T TBs) (hr.mono (by decide)) (by rfl) T.g__law_roll T.F__law_roll.kp T.b__law_roll .nil (pass_e (takes_of rfl rfl rfl rfl)) (pa_cons (pv 0) (pa_cons pe_int pa_nil)))) pps_nil)))) (by rfl) (by rfl) (fun z => by cases z) (by decide)))
      (pss_cons (ps_asg (pe_op op_addU pe_int (pe_call (ok__law_roll T TBs) (hr.mono (by decide)) (by rfl) T.g__law_roll T.F__law_roll.kp T.b__law_roll .nil (pass_e (takes_of rfl rfl rfl rfl)) (pa_cons (pv 0) (pa_cons pe_int pa_nil)))) (pg_sub (pv 1) pe_str (set_dict (hu1 hr))))
      (pss_cons (ps_asg (pe_call (ok__law_roll T TBs) (hr.mono (by decide)) (by rfl) T.g__law_roll T.F__law_roll.kp T.b__law_roll .nil (pass_e (takes_of rfl rfl rfl rfl)) (pa_cons (pv 0) (pa_cons pe_int pa_nil))) (pg_sub (pv 1) pe_str (set_dict (hu1 hr))))
      (pss_cons (ps_asg (pe_op op_addU pe_int (pe_call (ok__law_roll T TBs) (hr.mono (by decide)) (by rfl) T.g__law_roll T.F__law_roll.kp T.b__law_roll .nil (pass_e (takes_of rfl rfl rfl rfl)) (pa_cons (pv 0) (pa_cons pe_int pa_nil)))) (pg_sub (pv 1) pe_str (set_dict (hu1 hr))))
      (pss_cons (ps_asg (pe_op op_addU pe_int (pe_call (ok__law_roll T TBs) (hr.mono (by decide)) (by rfl) T.g__law_roll T.F__law_roll.kp T.b__law_roll .nil (pass_e (takes_of rfl rfl rfl rfl)) (pa_cons (pv 0) (pa_cons pe_int pa_nil)))) (pg_sub (pv 1) pe_str (set_dict (hu1 hr))))
      (pss_cons (ps_asg (pe_op op_addU pe_int (pe_call (ok__law_roll T TBs) (hr.mono (by decide)) (by rfl) T.g__law_roll T.F__law_roll.kp T.b__law_roll .nil (pass_e (takes_of rfl rfl rfl rfl)) (pa_cons (pv 0) (pa_cons pe_int pa_nil)))) (pg_sub (pv 1) pe_str (set_dict (hu1 hr))))
      (pss_cons (ps_asg (pe_call (ok__law_roll T TBs) (hr.mono (by decide)) (by rfl) T.g__law_roll T.F__law_roll.kp T.b__law_roll .nil (pass_e (takes_of rfl rfl rfl rfl)) (pa_cons (pv 0) (pa_cons pe_int pa_nil))) (pg_sub (pv 1) pe_str (set_dict (hu1 hr))))
      (pss_cons (ps_asg (pe_call (ok__law_roll T TBs) (hr.mono (by decide)) (by rfl) T.g__law_roll T.F__law_roll.kp T.b__law_roll .nil (pass_e (takes_of rfl rfl rfl rfl)) (pa_cons (pv 0) (pa_cons pe_int pa_nil))) (pg_sub (pv 1) pe_str (set_dict (hu1 hr))))
      (pss_cons (ps_asg (pe_call (ok__law_roll T TBs) (hr.mono (by decide)) (by rfl) T.g__law_roll T.F__law_roll.kp T.b__law_roll .nil (pass_e (takes_of rfl rfl rfl rfl)) (pa_cons (pv 0) (pa_cons pe_int pa_nil))) (pg_sub (pv 1) pe_str (set_dict (hu1 hr))))
      (pss_cons (ps_asg (pe_call (ok__law_pick T TBs) (hr.mono (by decide)) (by rfl) T.g__law_pick T.F__law_pick.kp T.b__law_pick .nil (pass_e (takes_of rfl rfl rfl rfl)) (pa_cons (pv 0) (pa_cons (pe_lst (pa_cons (pe_call (ok__law_roll T TBs) (hr.mono (by decide)) (by rfl) T.g__law_roll T.F__law_roll.kp T.b__law_roll .nil (pass_e (takes_of rfl rfl rfl rfl)) (pa_cons (pv 0) (pa_cons pe_int pa_nil))) (pa_cons (pe_call (ok__law_roll T TBs) (hr.mono (by decide)) (by rfl) T.g__law_roll T.F__law_roll.kp T.b__law_roll .nil (pass_e (takes_of rfl rfl rfl rfl)) (pa_cons (pv 0) (pa_cons pe_int pa_nil))) pa_nil))) pa_nil))) (pg_sub (pv 1) pe_str (set_dict (hu1 hr))))
      (pss_cons (ps_asg (pe_call (ok__law_pick T TBs) (hr.mono (by decide)) (by rfl) T.g__law_pick T.F__law_pick.kp T.b__law_pick .nil (pass_e (takes_of rfl rfl rfl rfl)) (pa_cons (pv 0) (pa_cons (pe_lst (pa_cons (pe_call (ok__law_roll T TBs) (hr.mono (by decide)) (by rfl) T.g__law_roll T.F__law_roll.kp T.b__law_roll .nil (pass_e (takes_of rfl rfl rfl rfl)) (pa_cons (pv 0) (pa_cons pe_int pa_nil))) (pa_cons (pe_call (ok__law_roll T TBs) (hr.mono (by decide)) (by rfl) T.g__law_roll T.F__law_roll.kp T.b__law_roll .nil (pass_e (takes_of rfl rfl rfl rfl)) (pa_cons (pv 0) (pa_cons pe_int pa_nil))) pa_nil))) pa_nil))) (pg_sub (pv 1) pe_str (set_dict (hu1 hr))))
      (pss_cons (ps_asg (pe_call (ok__law_roll T TBs) (hr.mono (by decide)) (by rfl) T.g__law_roll T.F__law_roll.kp T.b__law_roll .nil (pass_e (takes_of rfl rfl rfl rfl)) (pa_cons (pv 0) (pa_cons pe_int pa_nil))) (pg_sub (pv 1) pe_str (set_dict (hu1 hr))))
      (pss_one (ps_ret (pv 1)))))))))))))))
  · refine run_bodyS (n := 1) (by decide) (by rintro _ _ ⟨⟩ <;> rfl) h fun s o hR hv hE => ?_
    obtain ⟨v0, rfl⟩ := len1 hv
    cases hR with
    | mk h0 h1 => obtain rfl := pin_at hE; exact ⟨_, rd__law_l_wide h0 h1, .rt (Lv.leave (by walk_at "lv") rfl)⟩
theorem ok__law_l_plan (T : Tx P w K mg A) (TBs : TBs base mg A ∧ Dif A) : FnOk P w K mg base (L2.CX P w) 7 A.a__law_l_plan A.fd__law_l_plan ["own"] (spF K (R__law_l_plan P w K A.C A.T)) := by
  refine T.F__law_l_plan.okX sc__law_l_plan (fun vs H Q E h => spf_len (by rintro _ _ ⟨⟩ <;> rfl) h) (fun cdv Ar outer s H vs Q E hr h => ⟨t__law_l_plan P w K A.C A.T E, ?_, ?_⟩)
  · exact (pss_one (ps_ret (KwX.pe_makeKw (ks := ["rows", "lamps", "crews", "work", "every", "early", "sync", "burst", "gap", "trips", "drift", "cloud", "most", "fixed", "spare"]) T.mk_Plan (ok_Plan___init__ T TBs) (hr.mono (by decide)) (by rfl) T.g_Plan (pass_e (takes_of rfl rfl rfl rfl)) (pk_cons (pe_dget (hu1 hr) (pv 0) pe_str (fun _ _ => rfl)) (pk_cons (pe_dget (hu1 hr) (pv 0) pe_str (fun _ _ => rfl)) (pk_cons (pe_dget (hu1 hr) (pv 0) pe_str (fun _ _ => rfl)) (pk_cons (pe_dget (hu1 hr) (pv 0) pe_str (fun _ _ => rfl)) (pk_cons (pe_dget (hu1 hr) (pv 0) pe_str (fun _ _ => rfl)) (pk_cons (pe_dget (hu1 hr) (pv 0) pe_str (fun _ _ => rfl)) (pk_cons (pe_dget (hu1 hr) (pv 0) pe_str (fun _ _ => rfl)) (pk_cons (pe_dget (hu1 hr) (pv 0) pe_str (fun _ _ => rfl)) (pk_cons (pe_dget (hu1 hr) (pv 0) pe_str (fun _ _ => rfl)) (pk_cons (pe_dget (hu1 hr) (pv 0) pe_str (fun _ _ => rfl)) (pk_cons (pe_dget (hu1 hr) (pv 0) pe_str (fun _ _ => rfl)) (pk_cons (pe_dget (hu1 hr) (pv 0) pe_str (fun _ _ => rfl)) (pk_cons (pe_dget (hu1 hr) (pv 0) pe_str (fun _ _ => rfl)) (pk_cons (pe_dget (hu1 hr) (pv 0) pe_str (fun _ _ => rfl)) (pk_cons (pe_dget (hu1 hr) (pv 0) pe_str (fun _ _ => rfl)) pk_nil))))))))))))))) (by decide +kernel) (by decide +kernel) (by decide))))
  · refine run_bodyS (n := 1) (by decide) (by rintro _ _ ⟨⟩ <;> rfl) h fun s o hR hv hE => ?_
    obtain ⟨v0, rfl⟩ := len1 hv
    cases hR with
    | mk ok => exact ⟨_, rd__law_l_plan T.pk ok, .rt (Lv.leave (by walk_at "lv") rfl)⟩
    | no hn hb => exact ⟨_, rd__law_l_plan_no T.pk hn hb, .ex (Lv.leave (by walk_at "lv") rfl)⟩
theorem ok__law_l_table (T : Tx P w K mg A) (TBs : TBs base mg A ∧ Dif A) : FnOk P w K mg base (L2.CX P w) 1 A.a__law_l_table A.fd__law_l_table [] (spF K (R__law_l_table K A.C A.T)) := by
  refine T.F__law_l_table.okX sc__law_l_table (fun vs H Q E h => spf_len (by rintro _ _ ⟨⟩ <;> rfl) h) (fun cdv Ar outer s H vs Q E hr h => ⟨t__law_l_table K A.C A.T E, ?_, ?_⟩)
  · exact (pss_cons (ps_set (i := 0) sc__law_l_table.nd rfl (by first | exact Or.inl rfl | exact Or.inr rfl) (pe_lst (pa_cons (pe_tup (pa_cons pe_str (pa_cons pe_int pa_nil))) (pa_cons (pe_tup (pa_cons pe_str (pa_cons pe_int pa_nil))) (pa_cons (pe_tup (pa_cons pe_str (pa_cons pe_int pa_nil))) (pa_cons (pe_tup (pa_cons pe_str (pa_cons pe_int pa_nil))) (pa_cons (pe_tup (pa_cons pe_str (pa_cons pe_int pa_nil))) (pa_cons (pe_tup (pa_cons pe_str (pa_cons pe_int pa_nil))) (pa_cons (pe_tup (pa_cons pe_str (pa_cons pe_int pa_nil))) (pa_cons (pe_tup (pa_cons pe_str (pa_cons pe_int pa_nil))) (pa_cons (pe_tup (pa_cons pe_str (pa_cons pe_int pa_nil))) pa_nil)))))))))))
      (pss_one (ps_ret (pe_op op_addU (pv 0) (pe_lst (pa_cons (pe_tup (pa_cons pe_str (pa_cons pe_int pa_nil))) (pa_cons (pe_tup (pa_cons pe_str (pa_cons pe_int pa_nil))) (pa_cons (pe_tup (pa_cons pe_str (pa_cons pe_int pa_nil))) (pa_cons (pe_tup (pa_cons pe_str (pa_cons pe_int pa_nil))) (pa_cons (pe_tup (pa_cons pe_str (pa_cons pe_int pa_nil))) (pa_cons (pe_tup (pa_cons pe_str (pa_cons pe_int pa_nil))) pa_nil)))))))))))
  · refine run_bodyS (n := 0) (by decide) (by rintro _ _ ⟨⟩ <;> rfl) h fun s o hR hv hE => ?_
    obtain rfl := len0 hv
    cases hR with
    | mk => exact ⟨_, rd__law_l_table, .rt (Lv.leave (by walk_at "lv") rfl)⟩
theorem ok__law_l_first_bad (T : Tx P w K mg A) (TBs : TBs base mg A ∧ Dif A) : FnOk P w K mg base (L2.CX P w) 2 A.a__law_l_first_bad A.fd__law_l_first_bad ["found"] (spF K (R__law_l_first_bad K A.C A.T)) := by
  refine T.F__law_l_first_bad.okX sc__law_l_first_bad (fun vs H Q E h => spf_len (by rintro _ _ ⟨⟩ <;> rfl) h) (fun cdv Ar outer s H vs Q E hr h => ⟨t__law_l_first_bad K A.C A.T E, ?_, ?_⟩)
  · exact (pss_cons (ps_set (i := 1) sc__law_l_first_bad.nd rfl (by first | exact Or.inl rfl | exact Or.inr rfl) (pe_disp (pps_cons pe_str pe_int (pps_cons pe_str pe_int (pps_cons pe_str pe_int (pps_cons pe_str pe_int (pps_cons pe_str pe_int (pps_cons pe_str pe_int (pps_cons pe_str pe_int (pps_cons pe_str pe_int (pps_cons pe_str pe_int pps_nil))))))))) (by rfl) (by rfl) (fun z => by cases z) (by decide)))
      (pss_cons (ps_expr (pe_bm PySem.F.plainAttrs_dict PySem.F.slot_dict_update PySem.F.type_dict_update GdX.mt_update (pv 1) (pa_cons (pe_disp (pps_cons pe_str pe_int (pps_cons pe_str pe_int (pps_cons pe_str pe_int (pps_cons pe_str pe_int (pps_cons pe_str pe_int (pps_cons pe_str pe_int pps_nil)))))) (by rfl) (by rfl) (fun z => by cases z) (by decide)) pa_nil)))
      (pss_cons (ps_for (passes_of rfl) rfl (pi_seqU (pe_call0 (ok__law_l_table T TBs) (hr.mono (by decide)) (by rfl) T.g__law_l_table T.F__law_l_table.kp T.b__law_l_table .nil (pass_e (takes_of rfl rfl rfl rfl)))) (pg_tup rfl (pgs_cons (pg_name (i := 2) sc__law_l_first_bad.nd rfl (by first | exact Or.inl rfl | exact Or.inr rfl)) (pgs_cons (pg_name (i := 3) sc__law_l_first_bad.nd rfl (by first | exact Or.inl rfl | exact Or.inr rfl)) pgs_nil))) (pss_cons (ps_par (i := 4) (j := 5) rfl sc__law_l_first_bad.nd rfl rfl (by decide) rfl rfl (pa_cons (pe_dget (hu1 hr) (pv 0) (pv 2) (fun _ _ => rfl)) (pa_cons (pe_ifExp (pt_cmpR (op_inU (hu65 hr)) (pv 2) (pe_tup (pa_cons pe_str (pa_cons pe_str (pa_cons pe_str (pa_cons pe_str (pa_cons pe_str (pa_cons pe_str (pa_cons pe_str pa_nil)))))))) rfl) pe_int pe_int) pa_nil)) (by rfl))
      (pss_one (ps_if (PW.pt (pw_or (pt_not (pt_val (pe_callB call_isi (by rfl) T.n_isinstance (by decide +kernel) (pa_cons (pv 4) (pa_cons (pe_bltn (v := .ty "int") (by rfl) T.n_int (by decide +kernel) rfl) pa_nil))))) (pw_or (pt_val (pe_callB call_isi (by rfl) T.n_isinstance (by decide +kernel) (pa_cons (pv 4) (pa_cons (pe_bltn (v := .ty "bool") (by rfl) T.n_bool (by decide +kernel) rfl) pa_nil)))) (pw_or1 (pt_not (pt_chain op_leU op_leU (pv 5) (pv 4) (pe_dget (hu1 hr) (pv 1) (pv 2) (fun _ _ => rfl)))))))) (pss_one (ps_ret (pv 2))) pss_nil))))
      (pss_one (ps_ret pe_str)))))
  · refine run_bodyS (n := 1) (by decide) (by rintro _ _ ⟨⟩ <;> rfl) h fun s o hR hv hE => ?_
    obtain ⟨v0, rfl⟩ := len1 hv
    cases hR with
    | mk hn => exact ⟨_, rd__law_l_first_bad hn, .rt (Lv.leave (by walk_at "lv") rfl)⟩
theorem ok__law_l_with (T : Tx P w K mg A) (TBs : TBs base mg A ∧ Dif A) : FnOk P w K mg base (L2.CX P w) 8 A.a__law_l_with A.fd__law_l_with ["plan", "name", "value"] (spF K (R__law_l_with P w K A.C A.T)) := by
  refine T.F__law_l_with.okX sc__law_l_with (fun vs H Q E h => spf_len (by rintro _ _ ⟨⟩ <;> rfl) h) (fun cdv Ar outer s H vs Q E hr h => ⟨t__law_l_with P w K A.C A.T E, ?_, ?_⟩)
  · exact (pss_cons (ps_if (pt_cmpR (op_inU (hu65 hr)) (pv 1) (pe_tup (pa_cons pe_str (pa_cons pe_str (pa_cons pe_str (pa_cons pe_str pa_nil))))) rfl) (pss_cons (ps_if (pt_cmpR (op_eqU hr.units) (pv 1) pe_str (nomark _)) (pss_one (ps_ret (KwX.pe_methKw (ks := ["rows"]) (pv 0) T.cl_Plan T.me_Plan_changed (ok_Plan_changed T TBs) (hr.mono (by decide)) (pass_e (takes_of rfl rfl rfl rfl)) (pk_cons (pv 2) pk_nil) (by decide +kernel) (by decide +kernel) (by decide)))) pss_nil)
      (pss_cons (ps_if (pt_cmpR (op_eqU hr.units) (pv 1) pe_str (nomark _)) (pss_one (ps_ret (KwX.pe_methKw (ks := ["lamps"]) (pv 0) T.cl_Plan T.me_Plan_changed (ok_Plan_changed T TBs) (hr.mono (by decide)) (pass_e (takes_of rfl rfl rfl rfl)) (pk_cons (pv 2) pk_nil) (by decide +kernel) (by decide +kernel) (by decide)))) pss_nil)
      (pss_one (ps_ret (pe_ifExp (pt_cmpR (op_eqU hr.units) (pv 1) pe_str (nomark _)) (KwX.pe_methKw (ks := ["crews"]) (pv 0) T.cl_Plan T.me_Plan_changed (ok_Plan_changed T TBs) (hr.mono (by decide)) (pass_e (takes_of rfl rfl rfl rfl)) (pk_cons (pv 2) pk_nil) (by decide +kernel) (by decide +kernel) (by decide)) (KwX.pe_methKw (ks := ["work"]) (pv 0) T.cl_Plan T.me_Plan_changed (ok_Plan_changed T TBs) (hr.mono (by decide)) (pass_e (takes_of rfl rfl rfl rfl)) (pk_cons (pv 2) pk_nil) (by decide +kernel) (by decide +kernel) (by decide))))))) pss_nil)
      (pss_cons (ps_if (pt_cmpR (op_inU (hu65 hr)) (pv 1) (pe_tup (pa_cons pe_str (pa_cons pe_str (pa_cons pe_str (pa_cons pe_str pa_nil))))) rfl) (pss_cons (ps_if (pt_cmpR (op_eqU hr.units) (pv 1) pe_str (nomark _)) (pss_one (ps_ret (KwX.pe_methKw (ks := ["every"]) (pv 0) T.cl_Plan T.me_Plan_changed (ok_Plan_changed T TBs) (hr.mono (by decide)) (pass_e (takes_of rfl rfl rfl rfl)) (pk_cons (pv 2) pk_nil) (by decide +kernel) (by decide +kernel) (by decide)))) pss_nil)
      (pss_cons (ps_if (pt_cmpR (op_eqU hr.units) (pv 1) pe_str (nomark _)) (pss_one (ps_ret (KwX.pe_methKw (ks := ["early"]) (pv 0) T.cl_Plan T.me_Plan_changed (ok_Plan_changed T TBs) (hr.mono (by decide)) (pass_e (takes_of rfl rfl rfl rfl)) (pk_cons (pv 2) pk_nil) (by decide +kernel) (by decide +kernel) (by decide)))) pss_nil)
      (pss_one (ps_ret (pe_ifExp (pt_cmpR (op_eqU hr.units) (pv 1) pe_str (nomark _)) (KwX.pe_methKw (ks := ["sync"]) (pv 0) T.cl_Plan T.me_Plan_changed (ok_Plan_changed T TBs) (hr.mono (by decide)) (pass_e (takes_of rfl rfl rfl rfl)) (pk_cons (pv 2) pk_nil) (by decide +kernel) (by decide +kernel) (by decide)) (KwX.pe_methKw (ks := ["burst"]) (pv 0) T.cl_Plan T.me_Plan_changed (ok_Plan_changed T TBs) (hr.mono (by decide)) (pass_e (takes_of rfl rfl rfl rfl)) (pk_cons (pv 2) pk_nil) (by decide +kernel) (by decide +kernel) (by decide))))))) pss_nil)
      (pss_cons (ps_if (pt_cmpR (op_inU (hu65 hr)) (pv 1) (pe_tup (pa_cons pe_str (pa_cons pe_str (pa_cons pe_str (pa_cons pe_str pa_nil))))) rfl) (pss_cons (ps_if (pt_cmpR (op_eqU hr.units) (pv 1) pe_str (nomark _)) (pss_one (ps_ret (KwX.pe_methKw (ks := ["gap"]) (pv 0) T.cl_Plan T.me_Plan_changed (ok_Plan_changed T TBs) (hr.mono (by decide)) (pass_e (takes_of rfl rfl rfl rfl)) (pk_cons (pv 2) pk_nil) (by decide +kernel) (by decide +kernel) (by decide)))) pss_nil)
      (pss_cons (ps_if (pt_cmpR (op_eqU hr.units) (pv 1) pe_str (nomark _)) (pss_one (ps_ret (KwX.pe_methKw (ks := ["trips"]) (pv 0) T.cl_Plan T.me_Plan_changed (ok_Plan_changed T TBs) (hr.mono (by decide)) (pass_e (takes_of rfl rfl rfl rfl)) (pk_cons (pv 2) pk_nil) (by decide +kernel) (by decide +kernel) (by decide)))) pss_nil)
      (pss_one (ps_ret (pe_ifExp (pt_cmpR (op_eqU hr.units) (pv 1) pe_str (nomark _)) (KwX.pe_methKw (ks := ["drift"]) (pv 0) T.cl_Plan T.me_Plan_changed (ok_Plan_changed T TBs) (hr.mono (by decide)) (pass_e (takes_of rfl rfl rfl rfl)) (pk_cons (pv 2) pk_nil) (by decide +kernel) (by decide +kernel) (by decide)) (KwX.pe_methKw (ks := ["cloud"]) (pv 0) T.cl_Plan T.me_Plan_changed (ok_Plan_changed T TBs) (hr.mono (by decide)) (pass_e (takes_of rfl rfl rfl rfl)) (pk_cons (pv 2) pk_nil) (by decide +kernel) (by decide +kernel) (by decide))))))) pss_nil)
      (pss_cons (ps_if (pt_cmpR (op_eqU hr.units) (pv 1) pe_str (nomark _)) (pss_one (ps_ret (KwX.pe_methKw (ks := ["most"]) (pv 0) T.cl_Plan T.me_Plan_changed (ok_Plan_changed T TBs) (hr.mono (by decide)) (pass_e (takes_of rfl rfl rfl rfl)) (pk_cons (pv 2) pk_nil) (by decide +kernel) (by decide +kernel) (by decide)))) pss_nil)
      (pss_one (ps_ret (pe_ifExp (pt_cmpR (op_eqU hr.units) (pv 1) pe_str (nomark _)) (KwX.pe_methKw (ks := ["fixed"]) (pv 0) T.cl_Plan T.me_Plan_changed (ok_Plan_changed T TBs) (hr.mono (by decide)) (pass_e (takes_of rfl rfl rfl rfl)) (pk_cons (pv 2) pk_nil) (by decide +kernel) (by decide +kernel) (by decide)) (KwX.pe_methKw (ks := ["spare"]) (pv 0) T.cl_Plan T.me_Plan_changed (ok_Plan_changed T TBs) (hr.mono (by decide)) (pass_e (takes_of rfl rfl rfl rfl)) (pk_cons (pv 2) pk_nil) (by decide +kernel) (by decide +kernel) (by decide)))))))))
  · refine run_bodyS (n := 3) (by decide) (by rintro _ _ ⟨⟩ <;> rfl) h fun s o hR hv hE => ?_
    obtain ⟨v0, v1, v2, rfl⟩ := len3 hv
    cases hR with
    | ok hj h ok => exact ⟨_, rd__law_l_with_ok hj h ok, .rt (Lv.leave (by walk_at "lv") rfl)⟩
    | no hj hn hb => exact ⟨_, rd__law_l_with_no hj hn hb, .ex (Lv.leave (by walk_at "lv") rfl)⟩
theorem ok__law_due (T : Tx P w K mg A) (TBs : TBs base mg A ∧ Dif A) : GdX.FnOkG P w K mg base (L2.CX P w) 3 A.a__law_due A.fd__law_due ["found"] (spF K (R__law_due K A.C A.T)) := by
  refine GdX.fun_okG T.F__law_due sc__law_due (fun vs H Q E h => spf_len (by rintro _ _ ⟨⟩ <;> rfl) h) (fun cdv Ar outer s H vs Q E hgd hr h => ⟨t__law_due K A.C A.T E, ?_, ?_⟩)
  · exact (pss_cons (ps_set (i := 1) sc__law_due.nd rfl (by first | exact Or.inl rfl | exact Or.inr rfl) (pe_call (ok__law_l_first_bad T TBs) (hr.mono (by decide)) (by rfl) T.g__law_l_first_bad T.F__law_l_first_bad.kp T.b__law_l_first_bad .nil (pass_e (takes_of rfl rfl rfl rfl)) (pa_cons (pv 0) pa_nil)))
      (pss_one (ps_ret (pe_ifExp (pt_cmpR (op_neU hr.units) (pv 1) pe_str (nomark _)) (pv 1) (pe_callB (GdX.call_reprU hgd hr.units) (by rfl) T.n_repr (by decide +kernel) (pa_cons (pe_callTy call_tupU (by rfl) T.n_tuple (by decide +kernel) (pa_cons (pe_lc (own := [("name", 2), ("default", 3)]) rfl sc__law_due.nd (pi_seqU (pe_call0 (ok__law_l_table T TBs) (hr.mono (by decide)) (by rfl) T.g__law_l_table T.F__law_l_table.kp T.b__law_l_table .nil (pass_e (takes_of rfl rfl rfl rfl)))) (blkOk_by (own := [("name", 2), ("default", 3)]) (N := ["found", "bad", "name", "default"]) (sc := defScope s__law_due) (by decide +kernel)) (fun _ _ _ _ _ => (pg_tup rfl (pgs_cons (pg_name (i := 2) sc__law_due.nd rfl (Or.inl rfl)) (pgs_cons (pg_name (i := 3) sc__law_due.nd rfl (Or.inl rfl)) pgs_nil)))) (fun _ _ _ _ _ => pts_nil) (fun _ _ _ _ _ => (pe_dget (hu1 hr) (pv 0) (pv 2) (fun _ _ => rfl)))) pa_nil)) pa_nil))))))
  · refine run_bodyS (n := 1) (by decide) (by rintro _ _ ⟨⟩ <;> rfl) h fun s o hR hv hE => ?_
    obtain ⟨v0, rfl⟩ := len1 hv
    cases hR with
    | mk hn => exact ⟨_, rd__law_due hn, .rt (Lv.leave (by walk_at "lv") rfl)⟩
theorem ok__law_value (T : Tx P w K mg A) (TBs : TBs base mg A ∧ Dif A) : FnOk P w K mg base (L2.CX P w) 3 A.a__law_value A.fd__law_value ["dice", "own", "name"] (spF K (R__law_value K A.C A.T)) := by
  refine T.F__law_value.okX sc__law_value (fun vs H Q E h => spf_len (by rintro _ _ ⟨⟩ <;> rfl) h) (fun cdv Ar outer s H vs Q E hr h => ⟨t__law_value K A.C A.T E, ?_, ?_⟩)
  · exact (pss_one (ps_ret (pe_call (ok__law_pick T TBs) (hr.mono (by decide)) (by rfl) T.g__law_pick T.F__law_pick.kp T.b__law_pick .nil (pass_e (takes_of rfl rfl rfl rfl)) (pa_cons (pv 0) (pa_cons (pe_lst (pa_cons (pe_call (ok__law_pick T TBs) (hr.mono (by decide)) (by rfl) T.g__law_pick T.F__law_pick.kp T.b__law_pick .nil (pass_e (takes_of rfl rfl rfl rfl)) (pa_cons (pv 0) (pa_cons (pe_call (ok__law_odd_values T TBs) (hr.mono (by decide)) (by rfl) T.g__law_odd_values T.F__law_odd_values.kp T.b__law_odd_values .nil (pass_e (takes_of rfl rfl rfl rfl)) (pa_cons (pv 0) pa_nil)) pa_nil))) (pa_cons (pe_dget (hu1 hr) (pv 1) (pv 2) (fun _ _ => rfl)) (pa_cons (pe_call (ok__law_roll T TBs) (hr.mono (by decide)) (by rfl) T.g__law_roll T.F__law_roll.kp T.b__law_roll .nil (pass_e (takes_of rfl rfl rfl rfl)) (pa_cons (pv 0) (pa_cons pe_int pa_nil))) (pa_cons (pe_call (ok__law_roll T TBs) (hr.mono (by decide)) (by rfl) T.g__law_roll T.F__law_roll.kp T.b__law_roll .nil (pass_e (takes_of rfl rfl rfl rfl)) (pa_cons (pv 0) (pa_cons pe_int pa_nil))) (pa_cons (pe_un un_negU pe_int) (pa_cons pe_bl (pa_cons pe_int (pa_cons pe_int (pa_cons pe_int pa_nil)))))))))) pa_nil)))))
  · refine run_bodyS (n := 3) (by decide) (by rintro _ _ ⟨⟩ <;> rfl) h fun s o hR hv hE => ?_
    obtain ⟨v0, v1, v2, rfl⟩ := len3 hv
    cases hR with
    | mk hd hn hj => obtain rfl := pin_at hE; exact ⟨_, rd__law_value hd hn hj, .rt (Lv.leave (by walk_at "lv") rfl)⟩
theorem ok__law_is_own (T : Tx P w K mg A) (TBs : TBs base mg A ∧ Dif A) : GdX.FnOkG P w K mg base (L2.CX P w) 2 A.a__law_is_own A.fd__law_is_own ["plan", "found"] (spF K (R__law_is_own K A.C A.T)) := by
  refine GdX.fun_okG T.F__law_is_own sc__law_is_own (fun vs H Q E h => spf_len (by rintro _ _ ⟨⟩ <;> rfl) h) (fun cdv Ar outer s H vs Q E hgd hr h => ⟨t__law_is_own K A.C A.T E, ?_, ?_⟩)
  · exact (pss_cons (ps_set (i := 2) sc__law_is_own.nd rfl (by first | exact Or.inl rfl | exact Or.inr rfl) (pe_lst (pa_cons (pe_fld (pv 0) (by rfl)) (pa_cons (pe_fld (pv 0) (by rfl)) (pa_cons (pe_fld (pv 0) (by rfl)) (pa_cons (pe_fld (pv 0) (by rfl)) (pa_cons (pe_fld (pv 0) (by rfl)) (pa_cons (pe_fld (pv 0) (by rfl)) (pa_cons (pe_fld (pv 0) (by rfl)) (pa_cons (pe_fld (pv 0) (by rfl)) (pa_cons (pe_fld (pv 0) (by rfl)) (pa_cons (pe_fld (pv 0) (by rfl)) pa_nil))))))))))))
      (pss_cons (ps_set (i := 2) sc__law_is_own.nd rfl (by first | exact Or.inl rfl | exact Or.inr rfl) (pe_op op_addU (pv 2) (pe_lst (pa_cons (pe_fld (pv 0) (by rfl)) (pa_cons (pe_fld (pv 0) (by rfl)) (pa_cons (pe_fld (pv 0) (by rfl)) (pa_cons (pe_fld (pv 0) (by rfl)) (pa_cons (pe_fld (pv 0) (by rfl)) pa_nil))))))))
      (pss_one (ps_ret (pe_cmpR (op_eqU hr.units) (pe_callB (GdX.call_reprU hgd hr.units) (by rfl) T.n_repr (by decide +kernel) (pa_cons (pv 2) pa_nil)) (pe_callB (GdX.call_reprU hgd hr.units) (by rfl) T.n_repr (by decide +kernel) (pa_cons (pe_lc (own := [("name", 3), ("default", 4)]) rfl sc__law_is_own.nd (pi_seqU (pe_call0 (ok__law_l_table T TBs) (hr.mono (by decide)) (by rfl) T.g__law_l_table T.F__law_l_table.kp T.b__law_l_table .nil (pass_e (takes_of rfl rfl rfl rfl)))) (blkOk_by (own := [("name", 3), ("default", 4)]) (N := ["plan", "found", "told", "name", "default"]) (sc := defScope s__law_is_own) (by decide +kernel)) (fun _ _ _ _ _ => (pg_tup rfl (pgs_cons (pg_name (i := 3) sc__law_is_own.nd rfl (Or.inl rfl)) (pgs_cons (pg_name (i := 4) sc__law_is_own.nd rfl (Or.inl rfl)) pgs_nil)))) (fun _ _ _ _ _ => pts_nil) (fun _ _ _ _ _ => (pe_dget (hu1 hr) (pv 1) (pv 3) (fun _ _ => rfl)))) pa_nil)) (nomark _))))))
  · refine run_bodyS (n := 2) (by decide) (by rintro _ _ ⟨⟩ <;> rfl) h fun s o hR hv hE => ?_
    obtain ⟨v0, v1, rfl⟩ := len2 hv
    cases hR with
    | mk ok => exact ⟨_, rd__law_is_own T.pk ok, .rt (Lv.leave (by walk_at "lv") rfl)⟩
theorem ok__law_right (T : Tx P w K mg A) (TBs : TBs base mg A ∧ Dif A) : GdX.FnOkG P w K mg base (L2.CX P w) 11 A.a__law_right A.fd__law_right ["dice"] (spF K (R__law_right P w K A.C A.T)) := by
  refine GdX.funC_okG T.F__law_right sc__law_right (fun vs H Q E h => spf_len (by rintro _ _ ⟨⟩ <;> rfl) h) (fun Ar outer s H vs Q E hgd hr h => ⟨t__law_right P w K A.C A.T E, ?_, ?_⟩)
  · exact (pss_cons (ps_set (i := 1) sc__law_right.nd rfl (by first | exact Or.inl rfl | exact Or.inr rfl) (pe_ifExp (pt_cmpR (op_eqU hr.units) (pe_call (ok__law_roll T TBs) (hr.mono (by decide)) (by rfl) T.g__law_roll T.F__law_roll.kp T.b__law_roll .nil (pass_e (takes_of rfl rfl rfl rfl)) (pa_cons (pv 0) (pa_cons pe_int pa_nil))) pe_int (nomark _)) (pe_call (ok__law_l_wide T TBs) (hr.mono (by decide)) (by rfl) T.g__law_l_wide T.F__law_l_wide.kp T.b__law_l_wide .nil (pass_e (takes_of rfl rfl rfl rfl)) (pa_cons (pv 0) pa_nil)) (pe_call (ok__law_l_choices T TBs) (hr.mono (by decide)) (by rfl) T.g__law_l_choices T.F__law_l_choices.kp T.b__law_l_choices .nil (pass_e (takes_of rfl rfl rfl rfl)) (pa_cons (pv 0) pa_nil))))
      (pss_cons (ps_set (i := 3) sc__law_right.nd rfl (by first | exact Or.inl rfl | exact Or.inr rfl) (pe_callTy (call_dictPU rfl) (by rfl) T.n_dict (by decide +kernel) (pa_cons (LiI.pe_listItems rfl (pv 1) (by rfl) T.n_list (by decide +kernel)) pa_nil)))
      (pss_cons (ps_for (passes_of rfl) rfl (pi_range1 (by rfl) T.n_range (pa_cons (pe_call (ok__law_pick T TBs) (hr.mono (by decide)) (by rfl) T.g__law_pick T.F__law_pick.kp T.b__law_pick .nil (pass_e (takes_of rfl rfl rfl rfl)) (pa_cons (pv 0) (pa_cons (pe_lst (pa_cons pe_int (pa_cons pe_int (pa_cons pe_int (pa_cons pe_int pa_nil))))) pa_nil))) pa_nil)) (pg_name (i := 2) sc__law_right.nd rfl (by first | exact Or.inl rfl | exact Or.inr rfl)) (pss_cons (ps_set (i := 4) sc__law_right.nd rfl (by first | exact Or.inl rfl | exact Or.inr rfl) (pe_ix ix_U (pe_call (ok__law_pick T TBs) (hr.mono (by decide)) (by rfl) T.g__law_pick T.F__law_pick.kp T.b__law_pick .nil (pass_e (takes_of rfl rfl rfl rfl)) (pa_cons (pv 0) (pa_cons (pe_call0 (ok__law_l_table T TBs) (hr.mono (by decide)) (by rfl) T.g__law_l_table T.F__law_l_table.kp T.b__law_l_table .nil (pass_e (takes_of rfl rfl rfl rfl))) pa_nil))) pe_int (fun _ _ => rfl)))
      (pss_one (ps_asg (pe_call (ok__law_value T TBs) (hr.mono (by decide)) (by rfl) T.g__law_value T.F__law_value.kp T.b__law_value .nil (pass_e (takes_of rfl rfl rfl rfl)) (pa_cons (pv 0) (pa_cons (pv 1) (pa_cons (pv 4) pa_nil)))) (pg_sub (pv 3) (pv 4) (set_dict (hu1 hr)))))))
      (pss_cons (ps_if (pt_cmpR (op_neU hr.units) (GdX.lam_met (k := 8) T.F__law_met sc__law_met rfl T.x_BadPlan T.te_BadPlan T.mx ((ok_Plan_row T TBs).mono (by decide)) T.me_Plan_row T.cl_Plan T.b_Plan_row hgd rfl rfl (Or.inl rfl) rfl rfl rfl rfl rfl (fun _ _ _ _ _ _ => .all fun us hl => match us, hl with | [_], _ => rfl) T.g__law_met (by rfl) TBs.1._law_right rfl (by first | exact List.mem_cons_self | exact List.mem_cons_of_mem _ List.mem_cons_self | decide +kernel) (fun p hp e => one_tab TBs.2.d (by first | exact List.mem_cons_self | exact List.mem_cons_of_mem _ List.mem_cons_self | exact List.mem_cons_of_mem _ (List.mem_cons_of_mem _ List.mem_cons_self) | decide +kernel) hp e) (hr.mono (by decide)) (lamS_by (sc := defScope s__law_right) (by decide +kernel)) rfl (fun _ _ _ _ _ => rfl) (by intro Ar outer s H E f c' hr; exact (pe_call (ok__law_l_plan T TBs) (hr.mono (by decide)) (by rfl) T.g__law_l_plan T.F__law_l_plan.kp T.b__law_l_plan .nil (pass_e (takes_of rfl rfl rfl rfl)) (pa_cons (pv 3) pa_nil)))) (GdX.pe_callG hgd (ok__law_due T TBs) (hr.mono (by decide)) (by rfl) T.g__law_due T.F__law_due.kp T.b__law_due .nil (pass_e (takes_of rfl rfl rfl rfl)) (pa_cons (pv 3) pa_nil)) (nomark _)) (pss_one (ps_ret pe_bl)) pss_nil)
      (pss_cons (ps_asg (pe_tup (pa_cons (pe_call (ok__law_l_plan T TBs) (hr.mono (by decide)) (by rfl) T.g__law_l_plan T.F__law_l_plan.kp T.b__law_l_plan .nil (pass_e (takes_of rfl rfl rfl rfl)) (pa_cons (pv 1) pa_nil)) (pa_cons (pe_ix ix_U (pe_call (ok__law_pick T TBs) (hr.mono (by decide)) (by rfl) T.g__law_pick T.F__law_pick.kp T.b__law_pick .nil (pass_e (takes_of rfl rfl rfl rfl)) (pa_cons (pv 0) (pa_cons (pe_call0 (ok__law_l_table T TBs) (hr.mono (by decide)) (by rfl) T.g__law_l_table T.F__law_l_table.kp T.b__law_l_table .nil (pass_e (takes_of rfl rfl rfl rfl))) pa_nil))) pe_int (fun _ _ => rfl)) (pa_cons (pe_callTy (call_dictPU rfl) (by rfl) T.n_dict (by decide +kernel) (pa_cons (LiI.pe_listItems rfl (pv 1) (by rfl) T.n_list (by decide +kernel)) pa_nil)) pa_nil)))) (pg_tup rfl (pgs_cons (pg_name (i := 6) sc__law_right.nd rfl (by first | exact Or.inl rfl | exact Or.inr rfl)) (pgs_cons (pg_name (i := 4) sc__law_right.nd rfl (by first | exact Or.inl rfl | exact Or.inr rfl)) (pgs_cons (pg_name (i := 5) sc__law_right.nd rfl (by first | exact Or.inl rfl | exact Or.inr rfl)) pgs_nil)))))
      (pss_cons (ps_asg (pe_call (ok__law_value T TBs) (hr.mono (by decide)) (by rfl) T.g__law_value T.F__law_value.kp T.b__law_value .nil (pass_e (takes_of rfl rfl rfl rfl)) (pa_cons (pv 0) (pa_cons (pv 1) (pa_cons (pv 4) pa_nil)))) (pg_sub (pv 5) (pv 4) (set_dict (hu1 hr))))
      (pss_cons (ps_if (PW.pt (pw_or (pt_cmpR (op_neU hr.units) (GdX.lam_met (k := 8) T.F__law_met sc__law_met rfl T.x_BadPlan T.te_BadPlan T.mx ((ok_Plan_row T TBs).mono (by decide)) T.me_Plan_row T.cl_Plan T.b_Plan_row hgd rfl rfl (Or.inl rfl) rfl rfl rfl rfl rfl (fun _ _ _ _ _ _ => .all fun us hl => match us, hl with | [_], _ => rfl) T.g__law_met (by rfl) TBs.1._law_right rfl (by first | exact List.mem_cons_self | exact List.mem_cons_of_mem _ List.mem_cons_self | decide +kernel) (fun p hp e => one_tab TBs.2.d (by first | exact List.mem_cons_self | exact List.mem_cons_of_mem _ List.mem_cons_self | exact List.mem_cons_of_mem _ (List.mem_cons_of_mem _ List.mem_cons_self) | decide +kernel) hp e) (hr.mono (by decide)) (lamS_by (sc := defScope s__law_right) (by decide +kernel)) rfl (fun _ _ _ _ _ => rfl) (by intro Ar outer s H E f c' hr; exact (pe_call (ok__law_l_with T TBs) (hr.mono (by decide)) (by rfl) T.g__law_l_with T.F__law_l_with.kp T.b__law_l_with .nil (pass_e (takes_of rfl rfl rfl rfl)) (pa_cons (pv 6) (pa_cons (pv 4) (pa_cons (pe_dget (hu1 hr) (pv 5) (pv 4) (fun _ _ => rfl)) pa_nil)))))) (GdX.pe_callG hgd (ok__law_due T TBs) (hr.mono (by decide)) (by rfl) T.g__law_due T.F__law_due.kp T.b__law_due .nil (pass_e (takes_of rfl rfl rfl rfl)) (pa_cons (pv 5) pa_nil)) (nomark _)) (pw_or1 (pt_not (pt_val (GdX.pe_callG hgd (ok__law_is_own T TBs) (hr.mono (by decide)) (by rfl) T.g__law_is_own T.F__law_is_own.kp T.b__law_is_own .nil (pass_e (takes_of rfl rfl rfl rfl)) (pa_cons (pv 6) (pa_cons (pv 1) pa_nil)))))))) (pss_one (ps_ret pe_bl)) pss_nil)
      (pss_cons (ps_if (PW.pt (pw_and (pt_cmpR (op_eqU hr.units) (pe_call (ok__law_l_first_bad T TBs) (hr.mono (by decide)) (by rfl) T.g__law_l_first_bad T.F__law_l_first_bad.kp T.b__law_l_first_bad .nil (pass_e (takes_of rfl rfl rfl rfl)) (pa_cons (pv 5) pa_nil)) pe_str (nomark _)) (pw_and1 (pt_cmpR (op_neU hr.units) (pe_cmpR (GdX.op_eqA (ok_Plan___eq__ T TBs) T.me_Plan___eq__ T.b_Plan___eq__ (pass_e (takes_of rfl rfl rfl rfl)) (hr.mono (by decide))) (pe_call (ok__law_l_with T TBs) (hr.mono (by decide)) (by rfl) T.g__law_l_with T.F__law_l_with.kp T.b__law_l_with .nil (pass_e (takes_of rfl rfl rfl rfl)) (pa_cons (pv 6) (pa_cons (pv 4) (pa_cons (pe_dget (hu1 hr) (pv 5) (pv 4) (fun _ _ => rfl)) pa_nil)))) (pv 6) (nomark _)) (pe_cmpR (op_eqU hr.units) (pe_dget (hu1 hr) (pv 5) (pv 4) (fun _ _ => rfl)) (pe_dget (hu1 hr) (pv 1) (pv 4) (fun _ _ => rfl)) (nomark _)) (nomark _))))) (pss_one (ps_ret pe_bl)) pss_nil)
      (pss_one (ps_ret (pe_and (pe_cmpR (GdX.op_eqA (ok_Plan___eq__ T TBs) T.me_Plan___eq__ T.b_Plan___eq__ (pass_e (takes_of rfl rfl rfl rfl)) (hr.mono (by decide))) (pv 6) (pe_call (ok__law_l_plan T TBs) (hr.mono (by decide)) (by rfl) T.g__law_l_plan T.F__law_l_plan.kp T.b__law_l_plan .nil (pass_e (takes_of rfl rfl rfl rfl)) (pa_cons (pv 1) pa_nil)) (nomark _)) (pe_and (pe_not (pe_cmpR (GdX.op_neA T.ne_Plan (ok_Plan___eq__ T TBs) T.me_Plan___eq__ T.b_Plan___eq__ (pass_e (takes_of rfl rfl rfl rfl)) (hr.mono (by decide))) (pv 6) (pe_call (ok__law_l_plan T TBs) (hr.mono (by decide)) (by rfl) T.g__law_l_plan T.F__law_l_plan.kp T.b__law_l_plan .nil (pass_e (takes_of rfl rfl rfl rfl)) (pa_cons (pv 1) pa_nil)) (nomark _))) (pe_and (pe_cmpR (GdX.op_neA T.ne_Plan (ok_Plan___eq__ T TBs) T.me_Plan___eq__ T.b_Plan___eq__ (pass_e (takes_of rfl rfl rfl rfl)) (hr.mono (by decide))) (pv 6) (pe_meth0 (pv 6) T.cl_Plan T.me_Plan_row (ok_Plan_row T TBs) (hr.mono (by decide)) T.b_Plan_row .nil (pass_e (takes_of rfl rfl rfl rfl))) (nomark _)) (pe_one (pe_cmpR (GdX.op_neA T.ne_Plan (ok_Plan___eq__ T TBs) T.me_Plan___eq__ T.b_Plan___eq__ (pass_e (takes_of rfl rfl rfl rfl)) (hr.mono (by decide))) (pv 6) pe_non (nomark _))))))))))))))))
  · refine run_bodyS (n := 1) (by decide) (by rintro _ _ ⟨⟩ <;> rfl) h fun s o hR hv hE => ?_
    obtain ⟨v0, rfl⟩ := len1 hv
    cases hR with
    | mk hd => obtain rfl := pin_at hE; exact ⟨_, rd__law_right T.pk hd, .rt (Lv.leave (by walk_at "lv") rfl)⟩
theorem ok_law (T : Tx P w K mg A) (TBs : TBs base mg A ∧ Dif A) : GdX.FnOkG P w K mg base (L2.CX P w) 12 A.a_law A.fd_law ["script"] (spF K (R_law P w K A.C A.T)) := by
  refine GdX.funC_okG T.F_law sc_law (fun vs H Q E h => spf_len (by rintro _ _ ⟨⟩ <;> rfl) h) (fun Ar outer s H vs Q E hgd hr h => ⟨t_law P w K A.C A.T E, ?_, ?_⟩)
  · exact (pss_cons (ps_for (passes_of rfl) rfl (pi_range1 (by rfl) T.n_range (pa_cons (pe_callB (call_maxU rfl) (by rfl) T.n_max (by decide +kernel) (pa_cons pe_int (pa_cons (pe_callB (call_minU rfl) (by rfl) T.n_min (by decide +kernel) (pa_cons pe_int (pa_cons (pe_callB call_lenU (by rfl) T.n_len (by decide +kernel) (pa_cons (pv 0) pa_nil)) pa_nil))) pa_nil))) pa_nil)) (pg_name (i := 1) sc_law.nd rfl (by first | exact Or.inl rfl | exact Or.inr rfl)) (pss_one (ps_if (pt_not (pt_val (GdX.pe_callG hgd (ok__law_right T TBs) (hr.mono (by decide)) (by rfl) T.g__law_right T.F__law_right.kp T.b__law_right .nil (pass_e (takes_of rfl rfl rfl rfl)) (pa_cons (pe_call (ok__law_dice T TBs) (hr.mono (by decide)) (by rfl) T.g__law_dice T.F__law_dice.kp T.b__law_dice .nil (pass_e (takes_of rfl rfl rfl rfl)) (pa_cons (pv 0) (pa_cons (pv 1) pa_nil))) pa_nil)))) (pss_one (ps_ret pe_bl)) pss_nil)))
      (pss_cons (ps_set (i := 2) sc_law.nd rfl (by first | exact Or.inl rfl | exact Or.inr rfl) (pe_lst (pa_cons (GdX.lam_met (k := 9) T.F__law_met sc__law_met rfl T.x_BadPlan T.te_BadPlan T.mx ((ok_Plan_row T TBs).mono (by decide)) T.me_Plan_row T.cl_Plan T.b_Plan_row hgd rfl rfl (Or.inl rfl) rfl rfl rfl rfl rfl (fun _ _ _ _ _ _ => .all fun us hl => match us, hl with | [_], _ => rfl) T.g__law_met (by rfl) TBs.1.law rfl (by first | exact List.mem_cons_self | exact List.mem_cons_of_mem _ List.mem_cons_self | decide +kernel) (fun p hp e => one_tab TBs.2.d (by first | exact List.mem_cons_self | exact List.mem_cons_of_mem _ List.mem_cons_self | exact List.mem_cons_of_mem _ (List.mem_cons_of_mem _ List.mem_cons_self) | decide +kernel) hp e) (hr.mono (by decide)) (lamS_by (sc := defScope s_law) (by decide +kernel)) rfl (fun _ _ _ _ _ => rfl) (by intro Ar outer s H E f c' hr; exact (KwX.pe_makeKw (ks := ["gap", "kopies"]) T.mk_Plan (ok_Plan___init__ T TBs) (hr.mono (by decide)) (by rfl) T.g_Plan (pass_e (takes_of rfl rfl rfl rfl)) (pk_cons pe_int (pk_cons pe_int pk_nil)) (by decide +kernel) (by decide +kernel) (by decide)))) (pa_cons (GdX.lam_met (k := 9) T.F__law_met sc__law_met rfl T.x_BadPlan T.te_BadPlan T.mx ((ok_Plan_row T TBs).mono (by decide)) T.me_Plan_row T.cl_Plan T.b_Plan_row hgd rfl rfl (Or.inl rfl) rfl rfl rfl rfl rfl (fun _ _ _ _ _ _ => .all fun us hl => match us, hl with | [_], _ => rfl) T.g__law_met (by rfl) TBs.1.law rfl (by first | exact List.mem_cons_self | exact List.mem_cons_of_mem _ List.mem_cons_self | decide +kernel) (fun p hp e => one_tab TBs.2.d (by first | exact List.mem_cons_self | exact List.mem_cons_of_mem _ List.mem_cons_self | exact List.mem_cons_of_mem _ (List.mem_cons_of_mem _ List.mem_cons_self) | decide +kernel) hp e) (hr.mono (by decide)) (lamS_by (sc := defScope s_law) (by decide +kernel)) rfl (fun _ _ _ _ _ => rfl) (by intro Ar outer s H E f c' hr; exact (KwX.pe_makeKw (ks := ["kopies", "gap"]) T.mk_Plan (ok_Plan___init__ T TBs) (hr.mono (by decide)) (by rfl) T.g_Plan (pass_e (takes_of rfl rfl rfl rfl)) (pk_cons pe_int (pk_cons pe_int pk_nil)) (by decide +kernel) (by decide +kernel) (by decide)))) (pa_cons (GdX.lam_met (k := 9) T.F__law_met sc__law_met rfl T.x_BadPlan T.te_BadPlan T.mx ((ok_Plan_row T TBs).mono (by decide)) T.me_Plan_row T.cl_Plan T.b_Plan_row hgd rfl rfl (Or.inl rfl) rfl rfl rfl rfl rfl (fun _ _ _ _ _ _ => .all fun us hl => match us, hl with | [_], _ => rfl) T.g__law_met (by rfl) TBs.1.law rfl (by first | exact List.mem_cons_self | exact List.mem_cons_of_mem _ List.mem_cons_self | decide +kernel) (fun p hp e => one_tab TBs.2.d (by first | exact List.mem_cons_self | exact List.mem_cons_of_mem _ List.mem_cons_self | exact List.mem_cons_of_mem _ (List.mem_cons_of_mem _ List.mem_cons_self) | decide +kernel) hp e) (hr.mono (by decide)) (lamS_by (sc := defScope s_law) (by decide +kernel)) rfl (fun _ _ _ _ _ => rfl) (by intro Ar outer s H E f c' hr; exact (KwX.pe_makeKw (ks := ["spare", "rows"]) T.mk_Plan (ok_Plan___init__ T TBs) (hr.mono (by decide)) (by rfl) T.g_Plan (pass_e (takes_of rfl rfl rfl rfl)) (pk_cons pe_int (pk_cons pe_int pk_nil)) (by decide +kernel) (by decide +kernel) (by decide)))) pa_nil)))))
      (pss_cons (ps_set (i := 2) sc_law.nd rfl (by first | exact Or.inl rfl | exact Or.inr rfl) (pe_op op_addU (pv 2) (pe_lst (pa_cons (GdX.lam_met (k := 9) T.F__law_met sc__law_met rfl T.x_BadPlan T.te_BadPlan T.mx ((ok_Plan_row T TBs).mono (by decide)) T.me_Plan_row T.cl_Plan T.b_Plan_row hgd rfl rfl (Or.inl rfl) rfl rfl rfl rfl rfl (fun _ _ _ _ _ _ => .all fun us hl => match us, hl with | [_], _ => rfl) T.g__law_met (by rfl) TBs.1.law rfl (by first | exact List.mem_cons_self | exact List.mem_cons_of_mem _ List.mem_cons_self | decide +kernel) (fun p hp e => one_tab TBs.2.d (by first | exact List.mem_cons_self | exact List.mem_cons_of_mem _ List.mem_cons_self | exact List.mem_cons_of_mem _ (List.mem_cons_of_mem _ List.mem_cons_self) | decide +kernel) hp e) (hr.mono (by decide)) (lamS_by (sc := defScope s_law) (by decide +kernel)) rfl (fun _ _ _ _ _ => rfl) (by intro Ar outer s H E f c' hr; exact (KwX.pe_methKw (ks := ["gap", "Gap"]) (KwX.pe_makeKw (ks := []) T.mk_Plan (ok_Plan___init__ T TBs) (hr.mono (by decide)) (by rfl) T.g_Plan (pass_e (takes_of rfl rfl rfl rfl)) pk_nil (by decide +kernel) (by decide +kernel) (by decide)) T.cl_Plan T.me_Plan_changed (ok_Plan_changed T TBs) (hr.mono (by decide)) (pass_e (takes_of rfl rfl rfl rfl)) (pk_cons pe_int (pk_cons pe_int pk_nil)) (by decide +kernel) (by decide +kernel) (by decide)))) (pa_cons (GdX.lam_met (k := 9) T.F__law_met sc__law_met rfl T.x_BadPlan T.te_BadPlan T.mx ((ok_Plan_row T TBs).mono (by decide)) T.me_Plan_row T.cl_Plan T.b_Plan_row hgd rfl rfl (Or.inl rfl) rfl rfl rfl rfl rfl (fun _ _ _ _ _ _ => .all fun us hl => match us, hl with | [_], _ => rfl) T.g__law_met (by rfl) TBs.1.law rfl (by first | exact List.mem_cons_self | exact List.mem_cons_of_mem _ List.mem_cons_self | decide +kernel) (fun p hp e => one_tab TBs.2.d (by first | exact List.mem_cons_self | exact List.mem_cons_of_mem _ List.mem_cons_self | exact List.mem_cons_of_mem _ (List.mem_cons_of_mem _ List.mem_cons_self) | decide +kernel) hp e) (hr.mono (by decide)) (lamS_by (sc := defScope s_law) (by decide +kernel)) rfl (fun _ _ _ _ _ => rfl) (by intro Ar outer s H E f c' hr; exact (KwX.pe_makeKw (ks := ["trips"]) T.mk_Plan (ok_Plan___init__ T TBs) (hr.mono (by decide)) (by rfl) T.g_Plan (pass_e (takes_of rfl rfl rfl rfl)) (pk_cons pe_int pk_nil) (by decide +kernel) (by decide +kernel) (by decide)))) (pa_cons (GdX.lam_met (k := 9) T.F__law_met sc__law_met rfl T.x_BadPlan T.te_BadPlan T.mx ((ok_Plan_row T TBs).mono (by decide)) T.me_Plan_row T.cl_Plan T.b_Plan_row hgd rfl rfl (Or.inl rfl) rfl rfl rfl rfl rfl (fun _ _ _ _ _ _ => .all fun us hl => match us, hl with | [_], _ => rfl) T.g__law_met (by rfl) TBs.1.law rfl (by first | exact List.mem_cons_self | exact List.mem_cons_of_mem _ List.mem_cons_self | decide +kernel) (fun p hp e => one_tab TBs.2.d (by first | exact List.mem_cons_self | exact List.mem_cons_of_mem _ List.mem_cons_self | exact List.mem_cons_of_mem _ (List.mem_cons_of_mem _ List.mem_cons_self) | decide +kernel) hp e) (hr.mono (by decide)) (lamS_by (sc := defScope s_law) (by decide +kernel)) rfl (fun _ _ _ _ _ => rfl) (by intro Ar outer s H E f c' hr; exact (KwX.pe_makeKw (ks := ["crews"]) T.mk_Plan (ok_Plan___init__ T TBs) (hr.mono (by decide)) (by rfl) T.g_Plan (pass_e (takes_of rfl rfl rfl rfl)) (pk_cons pe_bl pk_nil) (by decide +kernel) (by decide +kernel) (by decide)))) pa_nil))))))
      (pss_cons (ps_if (PW.pt (pw_or (pt_cmpR (op_neU hr.units) (pv 2) (pe_lst (pa_cons pe_str (pa_cons pe_str (pa_cons pe_str (pa_cons pe_str (pa_cons pe_str (pa_cons pe_str pa_nil))))))) (nomark _)) (pw_or1 (pt_cmpR (op_neU hr.units) (GdX.lam_met (k := 9) T.F__law_met sc__law_met rfl T.x_BadPlan T.te_BadPlan T.mx ((ok_Plan_row T TBs).mono (by decide)) T.me_Plan_row T.cl_Plan T.b_Plan_row hgd rfl rfl (Or.inl rfl) rfl rfl rfl rfl rfl (fun _ _ _ _ _ _ => .all fun us hl => match us, hl with | [_], _ => rfl) T.g__law_met (by rfl) TBs.1.law rfl (by first | exact List.mem_cons_self | exact List.mem_cons_of_mem _ List.mem_cons_self | decide +kernel) (fun p hp e => one_tab TBs.2.d (by first | exact List.mem_cons_self | exact List.mem_cons_of_mem _ List.mem_cons_self | exact List.mem_cons_of_mem _ (List.mem_cons_of_mem _ List.mem_cons_self) | decide +kernel) hp e) (hr.mono (by decide)) (lamS_by (sc := defScope s_law) (by decide +kernel)) rfl (fun _ _ _ _ _ => rfl) (by intro Ar outer s H E f c' hr; exact (KwX.pe_makeKw (ks := []) T.mk_Plan (ok_Plan___init__ T TBs) (hr.mono (by decide)) (by rfl) T.g_Plan (pass_e (takes_of rfl rfl rfl rfl)) pk_nil (by decide +kernel) (by decide +kernel) (by decide)))) (GdX.pe_callG hgd (ok__law_due T TBs) (hr.mono (by decide)) (by rfl) T.g__law_due T.F__law_due.kp T.b__law_due .nil (pass_e (takes_of rfl rfl rfl rfl)) (pa_cons (pe_callTy (call_dictPU rfl) (by rfl) T.n_dict (by decide +kernel) (pa_cons (pe_call0 (ok__law_l_table T TBs) (hr.mono (by decide)) (by rfl) T.g__law_l_table T.F__law_l_table.kp T.b__law_l_table .nil (pass_e (takes_of rfl rfl rfl rfl))) pa_nil)) pa_nil)) (nomark _))))) (pss_one (ps_ret pe_bl)) pss_nil)
      (pss_one (ps_ret (pe_cmpR (op_eqU hr.units) (pe_glob (by rfl) T.c_CHOICES T.r_CHOICES) (pe_callTy call_tupU (by rfl) T.n_tuple (by decide +kernel) (pa_cons (pe_lc (own := [("pair", 3)]) rfl sc_law.nd (pi_seqU (pe_call0 (ok__law_l_table T TBs) (hr.mono (by decide)) (by rfl) T.g__law_l_table T.F__law_l_table.kp T.b__law_l_table .nil (pass_e (takes_of rfl rfl rfl rfl)))) (blkOk_by (own := [("pair", 3)]) (N := ["script", "spot", "told", "pair"]) (sc := defScope s_law) (by decide +kernel)) (fun _ _ _ _ _ => (pg_name (i := 3) sc_law.nd rfl (Or.inl rfl))) (fun _ _ _ _ _ => pts_nil) (fun _ _ _ _ _ => (pe_ix ix_U (pv 3) pe_int (fun _ _ => rfl)))) pa_nil)) (nomark _))))))))
  · refine run_bodyS (n := 1) (by decide) (by rintro _ _ ⟨⟩ <;> rfl) h fun s o hR hv hE => ?_
    obtain ⟨v0, rfl⟩ := len1 hv
    cases hR with
    | mk h => exact ⟨_, rd_law T.pk h, .rt (Lv.leave (by walk_at "lv") rfl)⟩
end
theorem exm_self {K : PySem.W.Frag} {S : Addr} (h1 : PySem.W.subIn K (.ref S) (.type "BaseException") = some true) (h2 : PySem.W.isClsIn K S = true) (h3 : PySem.W.typeIn K (.ref S) = some (.type "type")) (h4 : PySem.W.subIn K (.ref S) (.ref S) = some true) : PySem.W.exmOne K (.ref S) (.ref S) = some true := by
  have e1 : (PySem.W.subIn K (.ref S) (.type "BaseException") == some true) = true := by rw [h1] <;> rfl
  have e2 : ((PySem.W.clsIn K S).isSome && PySem.W.typeIn K (.ref S) == some (.type "type")) = true := by
    have h2' : (PySem.W.clsIn K S).isSome = true := h2
    rw [h2', h3] <;> rfl
  show (if (PySem.W.subIn K (.ref S) (.type "BaseException") == some true) = true then (if ((PySem.W.clsIn K S).isSome && PySem.W.typeIn K (.ref S) == some (.type "type")) = true then PySem.W.subIn K (.ref S) (.ref S) else none) else none) = some true
  rw [if_pos e1, if_pos e2]
  exact h4
theorem all_mk {l : PySem.W.OpenLaw} {w : World} {K : PySem.W.Frag} {h : Heap} {mg : Str → Option Value} {fa : Addr} (X : K.In h) (G : h.Ns mainGlobals mg) (hfa : mg "law" = some (.ref fa)) {P : Program} (hP : P = l.prog)
    {C_BadPlan f_BadPlan cda_BadPlan cc_BadPlan N_BadPlan : Addr} {nm_BadPlan q_BadPlan : Str} {bs_BadPlan bm_BadPlan : List Value} {sn_BadPlan : List Str} {sub_BadPlan : List Value} {ab_BadPlan : Bool} {col_BadPlan : Option Bool} {dd_BadPlan : Option Addr} {k0_BadPlan k1_BadPlan k2_BadPlan k3_BadPlan k5_BadPlan : Option Value} {oc_BadPlan ccl_BadPlan ccc_BadPlan ct_BadPlan doc_BadPlan pm_BadPlan : Value} {od_BadPlan cdd_BadPlan ccd_BadPlan an_BadPlan : Option Addr} {osl_BadPlan ccs_BadPlan ccv_BadPlan : Array (Option Value)} {vs_BadPlan : Array Value} {fi_BadPlan ql_BadPlan : Str} {tf_BadPlan : Tok} {p1_BadPlan p2_BadPlan pa_BadPlan pb_BadPlan pc_BadPlan pd_BadPlan pe_BadPlan pf_BadPlan pg_BadPlan ph_BadPlan pi_BadPlan pj_BadPlan : Pos}
    {C_Plan : Addr}
    {a_is_integer : Addr} {od_is_integer an_is_integer : Option Addr} {oc_is_integer kV_is_integer dc_is_integer pm_is_integer ct_is_integer cd_is_integer : Value} {sl_is_integer : Array (Option Value)}
    {a_is_in : Addr} {od_is_in an_is_in : Option Addr} {oc_is_in kV_is_in dc_is_in pm_is_in ct_is_in cd_is_in : Value} {sl_is_in : Array (Option Value)}
    {a_in_table : Addr} {od_in_table an_in_table : Option Addr} {oc_in_table kV_in_table dc_in_table pm_in_table ct_in_table cd_in_table : Value} {sl_in_table : Array (Option Value)}
    {a_chosen : Addr} {od_chosen an_chosen : Option Addr} {oc_chosen kV_chosen dc_chosen pm_chosen ct_chosen cd_chosen : Value} {sl_chosen : Array (Option Value)}
    {a_Plan___init__ : Addr} {od_Plan___init__ an_Plan___init__ : Option Addr} {oc_Plan___init__ kV_Plan___init__ dc_Plan___init__ pm_Plan___init__ ct_Plan___init__ cd_Plan___init__ : Value} {sl_Plan___init__ : Array (Option Value)}
    {a_Plan_row : Addr} {od_Plan_row an_Plan_row : Option Addr} {oc_Plan_row kV_Plan_row dc_Plan_row pm_Plan_row ct_Plan_row cd_Plan_row : Value} {sl_Plan_row : Array (Option Value)}
    {a_Plan___eq__ : Addr} {od_Plan___eq__ an_Plan___eq__ : Option Addr} {oc_Plan___eq__ kV_Plan___eq__ dc_Plan___eq__ pm_Plan___eq__ ct_Plan___eq__ cd_Plan___eq__ : Value} {sl_Plan___eq__ : Array (Option Value)}
    {a_Plan_changed : Addr} {od_Plan_changed an_Plan_changed : Option Addr} {oc_Plan_changed kV_Plan_changed dc_Plan_changed pm_Plan_changed ct_Plan_changed cd_Plan_changed : Value} {sl_Plan_changed : Array (Option Value)}
    {a__law_dice : Addr} {od__law_dice an__law_dice : Option Addr} {oc__law_dice kV__law_dice dc__law_dice pm__law_dice ct__law_dice cd__law_dice : Value} {sl__law_dice : Array (Option Value)}
    {a__law_roll : Addr} {od__law_roll an__law_roll : Option Addr} {oc__law_roll kV__law_roll dc__law_roll pm__law_roll ct__law_roll cd__law_roll : Value} {sl__law_roll : Array (Option Value)}
    {a__law_pick : Addr} {od__law_pick an__law_pick : Option Addr} {oc__law_pick kV__law_pick dc__law_pick pm__law_pick ct__law_pick cd__law_pick : Value} {sl__law_pick : Array (Option Value)}
    {a__law_odd_values : Addr} {od__law_odd_values an__law_odd_values : Option Addr} {oc__law_odd_values kV__law_odd_values dc__law_odd_values pm__law_odd_values ct__law_odd_values cd__law_odd_values : Value} {sl__law_odd_values : Array (Option Value)}
    {a__law_l_choices : Addr} {od__law_l_choices an__law_l_choices : Option Addr} {oc__law_l_choices kV__law_l_choices dc__law_l_choices pm__law_l_choices ct__law_l_choices cd__law_l_choices : Value} {sl__law_l_choices : Array (Option Value)}
    {a__law_l_wide : Addr} {od__law_l_wide an__law_l_wide : Option Addr} {oc__law_l_wide kV__law_l_wide dc__law_l_wide pm__law_l_wide ct__law_l_wide cd__law_l_wide : Value} {sl__law_l_wide : Array (Option Value)}
    {a__law_l_plan : Addr} {od__law_l_plan an__law_l_plan : Option Addr} {oc__law_l_plan kV__law_l_plan dc__law_l_plan pm__law_l_plan ct__law_l_plan cd__law_l_plan : Value} {sl__law_l_plan : Array (Option Value)}
    {a__law_l_table : Addr} {od__law_l_table an__law_l_table : Option Addr} {oc__law_l_table kV__law_l_table dc__law_l_table pm__law_l_table ct__law_l_table cd__law_l_table : Value} {sl__law_l_table : Array (Option Value)}
    {a__law_l_first_bad : Addr} {od__law_l_first_bad an__law_l_first_bad : Option Addr} {oc__law_l_first_bad kV__law_l_first_bad dc__law_l_first_bad pm__law_l_first_bad ct__law_l_first_bad cd__law_l_first_bad : Value} {sl__law_l_first_bad : Array (Option Value)}
    {a__law_l_with : Addr} {od__law_l_with an__law_l_with : Option Addr} {oc__law_l_with kV__law_l_with dc__law_l_with pm__law_l_with ct__law_l_with cd__law_l_with : Value} {sl__law_l_with : Array (Option Value)}
    {a__law_met : Addr} {od__law_met an__law_met : Option Addr} {oc__law_met kV__law_met dc__law_met pm__law_met ct__law_met cd__law_met : Value} {sl__law_met : Array (Option Value)}
    {a__law_due : Addr} {od__law_due an__law_due : Option Addr} {oc__law_due kV__law_due dc__law_due pm__law_due ct__law_due cd__law_due : Value} {sl__law_due : Array (Option Value)}
    {a__law_value : Addr} {od__law_value an__law_value : Option Addr} {oc__law_value kV__law_value dc__law_value pm__law_value ct__law_value cd__law_value : Value} {sl__law_value : Array (Option Value)}
    {a__law_is_own : Addr} {od__law_is_own an__law_is_own : Option Addr} {oc__law_is_own kV__law_is_own dc__law_is_own pm__law_is_own ct__law_is_own cd__law_is_own : Value} {sl__law_is_own : Array (Option Value)}
    {a__law_right : Addr} {od__law_right an__law_right : Option Addr} {oc__law_right kV__law_right dc__law_right pm__law_right ct__law_right : Value} {sl__law_right : Array (Option Value)}
    {c__law_right p__law_right : Addr} {oq__law_right : Value} {oe__law_right : Option Addr} {vs__law_right : Array Value} {os__law_right : Array (Option Value)}
    {a_law : Addr} {od_law an_law : Option Addr} {oc_law kV_law dc_law pm_law ct_law : Value} {sl_law : Array (Option Value)}
    {c_law p_law : Addr} {oq_law : Value} {oe_law : Option Addr} {vs_law : Array Value} {os_law : Array (Option Value)}
    {v_DEFAULTS : Value}
    {v_CHOICES : Value}
    {v_BOUNDS : Value}
    {K_CHOICES : Addr} {dd_CHOICES : Option Addr} {its_CHOICES : Array Value} {n_CHOICES : Nat} {sl_CHOICES : Array (Option Value)}
    {K_DEFAULTS : Addr} {es_DEFAULTS : Array DictEntry} {n_DEFAULTS : Nat}
    {K_BOUNDS : Addr} {es_BOUNDS : Array DictEntry} {n_BOUNDS : Nat} {t_BOUNDS_0 t_BOUNDS_1 t_BOUNDS_2 t_BOUNDS_3 t_BOUNDS_4 t_BOUNDS_5 t_BOUNDS_6 t_BOUNDS_7 t_BOUNDS_8 t_BOUNDS_9 t_BOUNDS_10 t_BOUNDS_11 t_BOUNDS_12 t_BOUNDS_13 t_BOUNDS_14 : Addr}
    {C_LightError : Addr}
    (gC_BadPlan : PySem.W.nsIn K mainGlobals "BadPlan" = some (some (.ref C_BadPlan)))
    (cl_BadPlan : K.lookup C_BadPlan = some (excClassObj nm_BadPlan q_BadPlan C_BadPlan N_BadPlan bs_BadPlan bm_BadPlan true sn_BadPlan sub_BadPlan ab_BadPlan col_BadPlan dd_BadPlan k0_BadPlan k1_BadPlan k2_BadPlan k3_BadPlan k5_BadPlan "ValueError.__new__"))
    (rf_BadPlan : PySem.HandSPX.refsVE bm_BadPlan = true)
    (sa_BadPlan : PySem.W.findIn K (.ref C_BadPlan) "__setattr__" = some (some (.builtin "object.__setattr__")))
    (ga_BadPlan : PySem.W.findIn K (.ref C_BadPlan) "__getattribute__" = some (some (.builtin "BaseException.__getattribute__")))
    (gg_BadPlan : PySem.W.findIn K (.ref C_BadPlan) "__getattr__" = some none)
    (ex_BadPlan : PySem.W.subIn K (.ref C_BadPlan) (.type "BaseException") = some true)
    (hd_BadPlan : PySem.W.hasDictIn K C_BadPlan = true)
    (no_BadPlan : PySem.W.findIn K (.ref C_BadPlan) "name" = some none)
    (iC_BadPlan : PySem.W.findIn K (.ref C_BadPlan) "__init__" = some (some (.ref f_BadPlan)))
    (tC_BadPlan : PySem.W.typeIn K (.ref f_BadPlan) = some (.type "function"))
    (kC_BadPlan : PySem.W.keepIn K (.ref C_BadPlan) = true)
    (ty_BadPlan : PySem.W.typeIn K (.ref C_BadPlan) = some (.type "type"))
    (isC_BadPlan : PySem.W.isClsIn K C_BadPlan = true)
    (su_BadPlan : PySem.W.ks_superIn K C_BadPlan C_BadPlan "__init__" = some (some (.builtin "ValueError.__init__")))
    (sV_BadPlan : PySem.W.subIn K (.ref C_BadPlan) (.type "ValueError") = some true)
    (sC_BadPlan : PySem.W.subIn K (.ref C_BadPlan) (.ref C_BadPlan) = some true)
    (mC_BadPlan : PySem.W.mroIn K C_BadPlan (.ref C_BadPlan) = some true)
    (l_BadPlan : K.lookup f_BadPlan = some ⟨oc_BadPlan, od_BadPlan, .func (PySem.W.ksFn "__init__" ql_BadPlan (BX.iA "name" p1_BadPlan p2_BadPlan) (BX.iB "name" pa_BadPlan pb_BadPlan pc_BadPlan pd_BadPlan pe_BadPlan pf_BadPlan pg_BadPlan ph_BadPlan pi_BadPlan pj_BadPlan) (BX.iS "name") .none .none doc_BadPlan pm_BadPlan an_BadPlan (.ref cda_BadPlan) ct_BadPlan cc_BadPlan), osl_BadPlan⟩)
    (c_BadPlan : PySem.W.codeIn K (.ref cda_BadPlan) ql_BadPlan = true)
    (d_BadPlan : K.lookup cda_BadPlan = some ⟨ccl_BadPlan, cdd_BadPlan, .fields vs_BadPlan, ccs_BadPlan⟩)
    (e_BadPlan : vs_BadPlan[2]? = some (.str fi_BadPlan tf_BadPlan))
    (ff_BadPlan : ((P.main.file : Str) == fi_BadPlan) = true)
    (cc__BadPlan : K.lookup cc_BadPlan = some ⟨ccc_BadPlan, ccd_BadPlan, .cell (some (.ref C_BadPlan)), ccv_BadPlan⟩)
    (ln_BadPlan : (pc_BadPlan.endLine == pe_BadPlan.line) = true)
    (sup : PySem.W.nsIn K mainGlobals "super" = some none)
    (any : PySem.W.nsIn K cStatics "thirdparty.any" = some none)
    (tsup : (P.main.scope.names.lookup ("super" : Str)).isSome = false)
    (n_ValueError : PySem.W.nsIn K mainGlobals "ValueError" = some none)
    (n_abs : PySem.W.nsIn K mainGlobals "abs" = some none)
    (n_bool : PySem.W.nsIn K mainGlobals "bool" = some none)
    (n_dict : PySem.W.nsIn K mainGlobals "dict" = some none)
    (n_int : PySem.W.nsIn K mainGlobals "int" = some none)
    (n_isinstance : PySem.W.nsIn K mainGlobals "isinstance" = some none)
    (n_len : PySem.W.nsIn K mainGlobals "len" = some none)
    (n_list : PySem.W.nsIn K mainGlobals "list" = some none)
    (n_max : PySem.W.nsIn K mainGlobals "max" = some none)
    (n_min : PySem.W.nsIn K mainGlobals "min" = some none)
    (n_range : PySem.W.nsIn K mainGlobals "range" = some none)
    (n_repr : PySem.W.nsIn K mainGlobals "repr" = some none)
    (n_tuple : PySem.W.nsIn K mainGlobals "tuple" = some none)
    (gC_Plan : PySem.W.nsIn K mainGlobals "Plan" = some (some (.ref C_Plan)))
    (pg_Plan : PySem.W.plainGet K C_Plan Str.empty = true)
    (hdd_Plan : PySem.W.hasDictIn K C_Plan = true)
    (po_Plan : PySem.W.plainOver K C_Plan = true)
    (csa_Plan : PySem.W.findIn K (.ref C_Plan) "__setattr__" = some (some (.builtin "object.__setattr__")))
    (mks_Plan : PySem.W.makesIn K C_Plan = true)
    (kC_Plan : PySem.W.keepIn K (.ref C_Plan) = true)
    (ga_is_integer : PySem.W.nsIn K mainGlobals "is_integer" = some (some (.ref a_is_integer)))
    (l_is_integer : K.lookup a_is_integer = some ⟨oc_is_integer, od_is_integer, .func (PySem.W.fnOf "is_integer" "is_integer" (defArgs s_is_integer) (defBody s_is_integer) (defScope s_is_integer) .none kV_is_integer dc_is_integer pm_is_integer an_is_integer cd_is_integer ct_is_integer), sl_is_integer⟩)
    (ci_is_integer : PySem.W.codeIn K cd_is_integer "is_integer" = true)
    (k_is_integer : PySem.W.keepIn K (.ref a_is_integer) = true)
    (ga_is_in : PySem.W.nsIn K mainGlobals "is_in" = some (some (.ref a_is_in)))
    (l_is_in : K.lookup a_is_in = some ⟨oc_is_in, od_is_in, .func (PySem.W.fnOf "is_in" "is_in" (defArgs s_is_in) (defBody s_is_in) (defScope s_is_in) .none kV_is_in dc_is_in pm_is_in an_is_in cd_is_in ct_is_in), sl_is_in⟩)
    (ci_is_in : PySem.W.codeIn K cd_is_in "is_in" = true)
    (k_is_in : PySem.W.keepIn K (.ref a_is_in) = true)
    (ga_in_table : PySem.W.nsIn K mainGlobals "in_table" = some (some (.ref a_in_table)))
    (l_in_table : K.lookup a_in_table = some ⟨oc_in_table, od_in_table, .func (PySem.W.fnOf "in_table" "in_table" (defArgs s_in_table) (defBody s_in_table) (defScope s_in_table) .none kV_in_table dc_in_table pm_in_table an_in_table cd_in_table ct_in_table), sl_in_table⟩)
    (ci_in_table : PySem.W.codeIn K cd_in_table "in_table" = true)
    (k_in_table : PySem.W.keepIn K (.ref a_in_table) = true)
    (ga_chosen : PySem.W.nsIn K mainGlobals "chosen" = some (some (.ref a_chosen)))
    (l_chosen : K.lookup a_chosen = some ⟨oc_chosen, od_chosen, .func (PySem.W.fnOf "chosen" "chosen" (defArgs s_chosen) (defBody s_chosen) (defScope s_chosen) .none kV_chosen dc_chosen pm_chosen an_chosen cd_chosen ct_chosen), sl_chosen⟩)
    (ci_chosen : PySem.W.codeIn K cd_chosen "chosen" = true)
    (k_chosen : PySem.W.keepIn K (.ref a_chosen) = true)
    (me_Plan___init__ : PySem.W.findIn K (.ref C_Plan) "__init__" = some (some (.ref a_Plan___init__)))
    (fn_Plan___init__ : PySem.W.isFn K (.ref a_Plan___init__) = true)
    (l_Plan___init__ : K.lookup a_Plan___init__ = some ⟨oc_Plan___init__, od_Plan___init__, .func (PySem.W.fnOf "__init__" "Plan.__init__" (defArgs s_Plan___init__) (defBody s_Plan___init__) (defScope s_Plan___init__) .none kV_Plan___init__ dc_Plan___init__ pm_Plan___init__ an_Plan___init__ cd_Plan___init__ ct_Plan___init__), sl_Plan___init__⟩)
    (ci_Plan___init__ : PySem.W.codeIn K cd_Plan___init__ "Plan.__init__" = true)
    (k_Plan___init__ : PySem.W.keepIn K (.ref a_Plan___init__) = true)
    (me_Plan_row : PySem.W.findIn K (.ref C_Plan) "row" = some (some (.ref a_Plan_row)))
    (fn_Plan_row : PySem.W.isFn K (.ref a_Plan_row) = true)
    (l_Plan_row : K.lookup a_Plan_row = some ⟨oc_Plan_row, od_Plan_row, .func (PySem.W.fnOf "row" "Plan.row" (defArgs s_Plan_row) (defBody s_Plan_row) (defScope s_Plan_row) .none kV_Plan_row dc_Plan_row pm_Plan_row an_Plan_row cd_Plan_row ct_Plan_row), sl_Plan_row⟩)
    (ci_Plan_row : PySem.W.codeIn K cd_Plan_row "Plan.row" = true)
    (k_Plan_row : PySem.W.keepIn K (.ref a_Plan_row) = true)
    (me_Plan___eq__ : PySem.W.findIn K (.ref C_Plan) "__eq__" = some (some (.ref a_Plan___eq__)))
    (fn_Plan___eq__ : PySem.W.isFn K (.ref a_Plan___eq__) = true)
    (l_Plan___eq__ : K.lookup a_Plan___eq__ = some ⟨oc_Plan___eq__, od_Plan___eq__, .func (PySem.W.fnOf "__eq__" "Plan.__eq__" (defArgs s_Plan___eq__) (defBody s_Plan___eq__) (defScope s_Plan___eq__) .none kV_Plan___eq__ dc_Plan___eq__ pm_Plan___eq__ an_Plan___eq__ cd_Plan___eq__ ct_Plan___eq__), sl_Plan___eq__⟩)
    (ci_Plan___eq__ : PySem.W.codeIn K cd_Plan___eq__ "Plan.__eq__" = true)
    (k_Plan___eq__ : PySem.W.keepIn K (.ref a_Plan___eq__) = true)
    (me_Plan_changed : PySem.W.findIn K (.ref C_Plan) "changed" = some (some (.ref a_Plan_changed)))
    (fn_Plan_changed : PySem.W.isFn K (.ref a_Plan_changed) = true)
    (l_Plan_changed : K.lookup a_Plan_changed = some ⟨oc_Plan_changed, od_Plan_changed, .func (PySem.W.fnOf "changed" "Plan.changed" (defArgs s_Plan_changed) (defBody s_Plan_changed) (defScope s_Plan_changed) .none kV_Plan_changed dc_Plan_changed pm_Plan_changed an_Plan_changed cd_Plan_changed ct_Plan_changed), sl_Plan_changed⟩)
    (ci_Plan_changed : PySem.W.codeIn K cd_Plan_changed "Plan.changed" = true)
    (k_Plan_changed : PySem.W.keepIn K (.ref a_Plan_changed) = true)
    (ga__law_dice : PySem.W.nsIn K mainGlobals "_law_dice" = some (some (.ref a__law_dice)))
    (l__law_dice : K.lookup a__law_dice = some ⟨oc__law_dice, od__law_dice, .func (PySem.W.fnOf "_law_dice" "_law_dice" (defArgs s__law_dice) (defBody s__law_dice) (defScope s__law_dice) .none kV__law_dice dc__law_dice pm__law_dice an__law_dice cd__law_dice ct__law_dice), sl__law_dice⟩)
    (ci__law_dice : PySem.W.codeIn K cd__law_dice "_law_dice" = true)
    (k__law_dice : PySem.W.keepIn K (.ref a__law_dice) = true)
    (ga__law_roll : PySem.W.nsIn K mainGlobals "_law_roll" = some (some (.ref a__law_roll)))
    (l__law_roll : K.lookup a__law_roll = some ⟨oc__law_roll, od__law_roll, .func (PySem.W.fnOf "_law_roll" "_law_roll" (defArgs s__law_roll) (defBody s__law_roll) (defScope s__law_roll) .none kV__law_roll dc__law_roll pm__law_roll an__law_roll cd__law_roll ct__law_roll), sl__law_roll⟩)
    (ci__law_roll : PySem.W.codeIn K cd__law_roll "_law_roll" = true)
    (k__law_roll : PySem.W.keepIn K (.ref a__law_roll) = true)
    (ga__law_pick : PySem.W.nsIn K mainGlobals "_law_pick" = some (some (.ref a__law_pick)))
    (l__law_pick : K.lookup a__law_pick = some ⟨oc__law_pick, od__law_pick, .func (PySem.W.fnOf "_law_pick" "_law_pick" (defArgs s__law_pick) (defBody s__law_pick) (defScope s__law_pick) .none kV__law_pick dc__law_pick pm__law_pick an__law_pick cd__law_pick ct__law_pick), sl__law_pick⟩)
    (ci__law_pick : PySem.W.codeIn K cd__law_pick "_law_pick" = true)
    (k__law_pick : PySem.W.keepIn K (.ref a__law_pick) = true)
    (ga__law_odd_values : PySem.W.nsIn K mainGlobals "_law_odd_values" = some (some (.ref a__law_odd_values)))
    (l__law_odd_values : K.lookup a__law_odd_values = some ⟨oc__law_odd_values, od__law_odd_values, .func (PySem.W.fnOf "_law_odd_values" "_law_odd_values" (defArgs s__law_odd_values) (defBody s__law_odd_values) (defScope s__law_odd_values) .none kV__law_odd_values dc__law_odd_values pm__law_odd_values an__law_odd_values cd__law_odd_values ct__law_odd_values), sl__law_odd_values⟩)
    (ci__law_odd_values : PySem.W.codeIn K cd__law_odd_values "_law_odd_values" = true)
    (k__law_odd_values : PySem.W.keepIn K (.ref a__law_odd_values) = true)
    (ga__law_l_choices : PySem.W.nsIn K mainGlobals "_law_l_choices" = some (some (.ref a__law_l_choices)))
    (l__law_l_choices : K.lookup a__law_l_choices = some ⟨oc__law_l_choices, od__law_l_choices, .func (PySem.W.fnOf "_law_l_choices" "_law_l_choices" (defArgs s__law_l_choices) (defBody s__law_l_choices) (defScope s__law_l_choices) .none kV__law_l_choices dc__law_l_choices pm__law_l_choices an__law_l_choices cd__law_l_choices ct__law_l_choices), sl__law_l_choices⟩)
    (ci__law_l_choices : PySem.W.codeIn K cd__law_l_choices "_law_l_choices" = true)
    (k__law_l_choices : PySem.W.keepIn K (.ref a__law_l_choices) = true)
    (ga__law_l_wide : PySem.W.nsIn K mainGlobals "_law_l_wide" = some (some (.ref a__law_l_wide)))
    (l__law_l_wide : K.lookup a__law_l_wide = some ⟨oc__law_l_wide, od__law_l_wide, .func (PySem.W.fnOf "_law_l_wide" "_law_l_wide" (defArgs s__law_l_wide) (defBody s__law_l_wide) (defScope s__law_l_wide) .none kV__law_l_wide dc__law_l_wide pm__law_l_wide an__law_l_wide cd__law_l_wide ct__law_l_wide), sl__law_l_wide⟩)
    (ci__law_l_wide : PySem.W.codeIn K cd__law_l_wide "_law_l_wide" = true)
    (k__law_l_wide : PySem.W.keepIn K (.ref a__law_l_wide) = true)
    (ga__law_l_plan : PySem.W.nsIn K mainGlobals "_law_l_plan" = some (some (.ref a__law_l_plan)))
    (l__law_l_plan : K.lookup a__law_l_plan = some ⟨oc__law_l_plan, od__law_l_plan, .func (PySem.W.fnOf "_law_l_plan" "_law_l_plan" (defArgs s__law_l_plan) (defBody s__law_l_plan) (defScope s__law_l_plan) .none kV__law_l_plan dc__law_l_plan pm__law_l_plan an__law_l_plan cd__law_l_plan ct__law_l_plan), sl__law_l_plan⟩)
    (ci__law_l_plan : PySem.W.codeIn K cd__law_l_plan "_law_l_plan" = true)
    (k__law_l_plan : PySem.W.keepIn K (.ref a__law_l_plan) = true)
    (ga__law_l_table : PySem.W.nsIn K mainGlobals "_law_l_table" = some (some (.ref a__law_l_table)))
    (l__law_l_table : K.lookup a__law_l_table = some ⟨oc__law_l_table, od__law_l_table, .func (PySem.W.fnOf "_law_l_table" "_law_l_table" (defArgs s__law_l_table) (defBody s__law_l_table) (defScope s__law_l_table) .none kV__law_l_table dc__law_l_table pm__law_l_table an__law_l_table cd__law_l_table ct__law_l_table), sl__law_l_table⟩)
    (ci__law_l_table : PySem.W.codeIn K cd__law_l_table "_law_l_table" = true)
    (k__law_l_table : PySem.W.keepIn K (.ref a__law_l_table) = true)
    (ga__law_l_first_bad : PySem.W.nsIn K mainGlobals "_law_l_first_bad" = some (some (.ref a__law_l_first_bad)))
    (l__law_l_first_bad : K.lookup a__law_l_first_bad = some ⟨oc__law_l_first_bad, od__law_l_first_bad, .func (PySem.W.fnOf "_law_l_first_bad" "_law_l_first_bad" (defArgs s__law_l_first_bad) (defBody s__law_l_first_bad) (defScope s__law_l_first_bad) .none kV__law_l_first_bad dc__law_l_first_bad pm__law_l_first_bad an__law_l_first_bad cd__law_l_first_bad ct__law_l_first_bad), sl__law_l_first_bad⟩)
    (ci__law_l_first_bad : PySem.W.codeIn K cd__law_l_first_bad "_law_l_first_bad" = true)
    (k__law_l_first_bad : PySem.W.keepIn K (.ref a__law_l_first_bad) = true)
    (ga__law_l_with : PySem.W.nsIn K mainGlobals "_law_l_with" = some (some (.ref a__law_l_with)))
    (l__law_l_with : K.lookup a__law_l_with = some ⟨oc__law_l_with, od__law_l_with, .func (PySem.W.fnOf "_law_l_with" "_law_l_with" (defArgs s__law_l_with) (defBody s__law_l_with) (defScope s__law_l_with) .none kV__law_l_with dc__law_l_with pm__law_l_with an__law_l_with cd__law_l_with ct__law_l_with), sl__law_l_with⟩)
    (ci__law_l_with : PySem.W.codeIn K cd__law_l_with "_law_l_with" = true)
    (k__law_l_with : PySem.W.keepIn K (.ref a__law_l_with) = true)
    (ga__law_met : PySem.W.nsIn K mainGlobals "_law_met" = some (some (.ref a__law_met)))
    (l__law_met : K.lookup a__law_met = some ⟨oc__law_met, od__law_met, .func (PySem.W.fnOf "_law_met" "_law_met" (defArgs s__law_met) (defBody s__law_met) (defScope s__law_met) .none kV__law_met dc__law_met pm__law_met an__law_met cd__law_met ct__law_met), sl__law_met⟩)
    (ci__law_met : PySem.W.codeIn K cd__law_met "_law_met" = true)
    (k__law_met : PySem.W.keepIn K (.ref a__law_met) = true)
    (ga__law_due : PySem.W.nsIn K mainGlobals "_law_due" = some (some (.ref a__law_due)))
    (l__law_due : K.lookup a__law_due = some ⟨oc__law_due, od__law_due, .func (PySem.W.fnOf "_law_due" "_law_due" (defArgs s__law_due) (defBody s__law_due) (defScope s__law_due) .none kV__law_due dc__law_due pm__law_due an__law_due cd__law_due ct__law_due), sl__law_due⟩)
    (ci__law_due : PySem.W.codeIn K cd__law_due "_law_due" = true)
    (k__law_due : PySem.W.keepIn K (.ref a__law_due) = true)
    (ga__law_value : PySem.W.nsIn K mainGlobals "_law_value" = some (some (.ref a__law_value)))
    (l__law_value : K.lookup a__law_value = some ⟨oc__law_value, od__law_value, .func (PySem.W.fnOf "_law_value" "_law_value" (defArgs s__law_value) (defBody s__law_value) (defScope s__law_value) .none kV__law_value dc__law_value pm__law_value an__law_value cd__law_value ct__law_value), sl__law_value⟩)
    (ci__law_value : PySem.W.codeIn K cd__law_value "_law_value" = true)
    (k__law_value : PySem.W.keepIn K (.ref a__law_value) = true)
    (ga__law_is_own : PySem.W.nsIn K mainGlobals "_law_is_own" = some (some (.ref a__law_is_own)))
    (l__law_is_own : K.lookup a__law_is_own = some ⟨oc__law_is_own, od__law_is_own, .func (PySem.W.fnOf "_law_is_own" "_law_is_own" (defArgs s__law_is_own) (defBody s__law_is_own) (defScope s__law_is_own) .none kV__law_is_own dc__law_is_own pm__law_is_own an__law_is_own cd__law_is_own ct__law_is_own), sl__law_is_own⟩)
    (ci__law_is_own : PySem.W.codeIn K cd__law_is_own "_law_is_own" = true)
    (k__law_is_own : PySem.W.keepIn K (.ref a__law_is_own) = true)
    (ga__law_right : PySem.W.nsIn K mainGlobals "_law_right" = some (some (.ref a__law_right)))
    (l__law_right : K.lookup a__law_right = some ⟨oc__law_right, od__law_right, .func (PySem.W.fnOf "_law_right" "_law_right" (defArgs s__law_right) (defBody s__law_right) (defScope s__law_right) .none kV__law_right dc__law_right pm__law_right an__law_right (.ref c__law_right) ct__law_right), sl__law_right⟩)
    (ci__law_right : PySem.W.codeIn K (.ref c__law_right) "_law_right" = true)
    (k__law_right : PySem.W.keepIn K (.ref a__law_right) = true)
    (lc__law_right : K.lookup c__law_right = some ⟨oq__law_right, oe__law_right, .fields vs__law_right, os__law_right⟩)
    (pc__law_right : vs__law_right[11]? = some (.ref p__law_right))
    (hd__law_right : PySem.W.codeHdIn K c__law_right p__law_right = true)
    (np__law_right : K.lookup p__law_right = none)
    (hp__law_right : h.get? p__law_right = some { cls := .none, data := .fields #[] })
    (ga_law : PySem.W.nsIn K mainGlobals "law" = some (some (.ref a_law)))
    (l_law : K.lookup a_law = some ⟨oc_law, od_law, .func (PySem.W.fnOf "law" "law" (defArgs s_law) (defBody s_law) (defScope s_law) .none kV_law dc_law pm_law an_law (.ref c_law) ct_law), sl_law⟩)
    (ci_law : PySem.W.codeIn K (.ref c_law) "law" = true)
    (k_law : PySem.W.keepIn K (.ref a_law) = true)
    (lc_law : K.lookup c_law = some ⟨oq_law, oe_law, .fields vs_law, os_law⟩)
    (pc_law : vs_law[11]? = some (.ref p_law))
    (hd_law : PySem.W.codeHdIn K c_law p_law = true)
    (np_law : K.lookup p_law = none)
    (hp_law : h.get? p_law = some { cls := .none, data := .fields #[] })
    (cc_DEFAULTS : PySem.W.nsIn K mainGlobals "DEFAULTS" = some (some v_DEFAULTS))
    (cr_DEFAULTS : RelV (.ref K_DEFAULTS) v_DEFAULTS)
    (cc_CHOICES : PySem.W.nsIn K mainGlobals "CHOICES" = some (some v_CHOICES))
    (cr_CHOICES : RelV (.ref K_CHOICES) v_CHOICES)
    (cc_BOUNDS : PySem.W.nsIn K mainGlobals "BOUNDS" = some (some v_BOUNDS))
    (cr_BOUNDS : RelV (.ref K_BOUNDS) v_BOUNDS)
    (ocg : PySem.W.specialIn K (.builtin "object.__class__") "__get__" = some (some (.builtin "getset_descriptor.__get__")))
    (oct : PySem.W.takesIn K (.builtin "object.__class__") = some true)
    (kl_CHOICES : K.lookup K_CHOICES = some ⟨.type "tuple", dd_CHOICES, .seq its_CHOICES n_CHOICES, sl_CHOICES⟩)
    (kv_CHOICES : VStr its_CHOICES.toList ["rows", "lamps", "crews", "work", "every", "early", "sync", "burst", "gap", "trips", "drift", "cloud", "most", "fixed", "spare"])
    (kl_DEFAULTS : K.lookup K_DEFAULTS = some ⟨.type "dict", none, .dict es_DEFAULTS n_DEFAULTS, #[]⟩)
    (kv_DEFAULTS : DLit w.params PInt es_DEFAULTS.toList [("rows", .int 2, .int 2), ("lamps", .int 2, .int 2), ("crews", .int 2, .int 2), ("work", .int 4, .int 4), ("every", .int 6, .int 6), ("early", .int 12, .int 12), ("sync", .int 3, .int 3), ("burst", .int 2, .int 2), ("gap", .int 6, .int 6), ("trips", .int 1, .int 1), ("drift", .int 2, .int 2), ("cloud", .int 5, .int 5), ("most", .int 9, .int 9), ("fixed", .int 20, .int 20), ("spare", .int 30, .int 30)])
    (ks_DEFAULTS : (K_DEFAULTS == sysModules) = false)
    (kl_BOUNDS : K.lookup K_BOUNDS = some ⟨.type "dict", none, .dict es_BOUNDS n_BOUNDS, #[]⟩)
    (kv_BOUNDS : DLit w.params (PTwo K) es_BOUNDS.toList [("rows", .ref t_BOUNDS_0, .tuple [.int 1, .int 3]), ("lamps", .ref t_BOUNDS_1, .tuple [.int 1, .int 4]), ("crews", .ref t_BOUNDS_2, .tuple [.int 1, .int 4]), ("work", .ref t_BOUNDS_3, .tuple [.int 1, .int 12]), ("every", .ref t_BOUNDS_4, .tuple [.int 1, .int 12]), ("early", .ref t_BOUNDS_5, .tuple [.int 0, .int 60]), ("sync", .ref t_BOUNDS_6, .tuple [.int 1, .int 10]), ("burst", .ref t_BOUNDS_7, .tuple [.int 1, .int 6]), ("gap", .ref t_BOUNDS_8, .tuple [.int 1, .int 12]), ("trips", .ref t_BOUNDS_9, .tuple [.int 0, .int 3]), ("drift", .ref t_BOUNDS_10, .tuple [.int 0, .int 5]), ("cloud", .ref t_BOUNDS_11, .tuple [.int 0, .int 30]), ("most", .ref t_BOUNDS_12, .tuple [.int 0, .int 100]), ("fixed", .ref t_BOUNDS_13, .tuple [.int 0, .int 100]), ("spare", .ref t_BOUNDS_14, .tuple [.int 0, .int 200])])
    (ks_BOUNDS : (K_BOUNDS == sysModules) = false)
    (oa_Plan : PySem.W.findIn K (.ref C_Plan) "__class__" = some (some (.builtin "object.__class__")))
    (oo_Plan : PySem.W.mroIn K C_Plan (.type "object") = some true)
    (ok0_Plan : PySem.W.kitOne K (.type "NoneType") (.ref C_Plan) = some false)
    (ok1_Plan : PySem.W.kitOne K (.type "bool") (.ref C_Plan) = some false)
    (ok2_Plan : PySem.W.kitOne K (.type "int") (.ref C_Plan) = some false)
    (ok3_Plan : PySem.W.kitOne K (.type "str") (.ref C_Plan) = some false)
    (ok4_Plan : PySem.W.kitOne K (.type "list") (.ref C_Plan) = some false)
    (ok5_Plan : PySem.W.kitOne K (.type "tuple") (.ref C_Plan) = some false)
    (ok6_Plan : PySem.W.kitOne K (.type "dict") (.ref C_Plan) = some false)
    (na_Plan__found : NoAttr K C_Plan "_found")
    (na_Plan_rows : NoAttr K C_Plan "rows")
    (na_Plan_lamps : NoAttr K C_Plan "lamps")
    (na_Plan_crews : NoAttr K C_Plan "crews")
    (na_Plan_work : NoAttr K C_Plan "work")
    (na_Plan_every : NoAttr K C_Plan "every")
    (na_Plan_early : NoAttr K C_Plan "early")
    (na_Plan_sync : NoAttr K C_Plan "sync")
    (na_Plan_burst : NoAttr K C_Plan "burst")
    (na_Plan_gap : NoAttr K C_Plan "gap")
    (na_Plan_trips : NoAttr K C_Plan "trips")
    (na_Plan_drift : NoAttr K C_Plan "drift")
    (na_Plan_cloud : NoAttr K C_Plan "cloud")
    (na_Plan_most : NoAttr K C_Plan "most")
    (na_Plan_fixed : NoAttr K C_Plan "fixed")
    (na_Plan_spare : NoAttr K C_Plan "spare")
    (ne1_Plan : PySem.W.findIn K (.ref C_Plan) "__ne__" = some (some (.builtin "object.__ne__")))
    (gC_LightError : PySem.W.nsIn K mainGlobals "LightError" = some (some (.ref C_LightError)))
    (kl_Light : PySem.W.kitOne K (.ref C_BadPlan) (.ref C_LightError) = some true)
    (kv_Light : PySem.W.kitOne K (.ref C_BadPlan) (.type "ValueError") = some true)
    (xa_BadPlan : PySem.W.findIn K (.ref C_BadPlan) "__class__" = some (some (.builtin "object.__class__")))
    (xm_BadPlan : PySem.W.mroIn K C_BadPlan (.type "object") = some true)
    (dif : [p__law_right, p_law].Nodup) :
    GdX.LawAtG l w K (L2.CX P w) 12 63 "script" mg fa h := by
  subst hP
  have e := hfa.symm.trans (PySem.W.mg_of X G ga_law)
  have e2 : a_law = fa := by cases e; rfl
  subst e2
  have F_is_integer := fun_mk (st := s_is_integer) l_is_integer ci_is_integer k_is_integer
  have F_is_in := fun_mk (st := s_is_in) l_is_in ci_is_in k_is_in
  have F_in_table := fun_mk (st := s_in_table) l_in_table ci_in_table k_in_table
  have F_chosen := fun_mk (st := s_chosen) l_chosen ci_chosen k_chosen
  have F_Plan___init__ := KwX.funK_mk (st := s_Plan___init__) l_Plan___init__ ci_Plan___init__
  have F_Plan_row := fun_mk (st := s_Plan_row) l_Plan_row ci_Plan_row k_Plan_row
  have F_Plan___eq__ := fun_mk (st := s_Plan___eq__) l_Plan___eq__ ci_Plan___eq__ k_Plan___eq__
  have F_Plan_changed := KwX.funK_mk (st := s_Plan_changed) l_Plan_changed ci_Plan_changed
  have F__law_dice := fun_mk (st := s__law_dice) l__law_dice ci__law_dice k__law_dice
  have F__law_roll := fun_mk (st := s__law_roll) l__law_roll ci__law_roll k__law_roll
  have F__law_pick := fun_mk (st := s__law_pick) l__law_pick ci__law_pick k__law_pick
  have F__law_odd_values := fun_mk (st := s__law_odd_values) l__law_odd_values ci__law_odd_values k__law_odd_values
  have F__law_l_choices := fun_mk (st := s__law_l_choices) l__law_l_choices ci__law_l_choices k__law_l_choices
  have F__law_l_wide := fun_mk (st := s__law_l_wide) l__law_l_wide ci__law_l_wide k__law_l_wide
  have F__law_l_plan := fun_mk (st := s__law_l_plan) l__law_l_plan ci__law_l_plan k__law_l_plan
  have F__law_l_table := fun_mk (st := s__law_l_table) l__law_l_table ci__law_l_table k__law_l_table
  have F__law_l_first_bad := fun_mk (st := s__law_l_first_bad) l__law_l_first_bad ci__law_l_first_bad k__law_l_first_bad
  have F__law_l_with := fun_mk (st := s__law_l_with) l__law_l_with ci__law_l_with k__law_l_with
  have F__law_met := fun_mk (st := s__law_met) l__law_met ci__law_met k__law_met
  have F__law_due := fun_mk (st := s__law_due) l__law_due ci__law_due k__law_due
  have F__law_value := fun_mk (st := s__law_value) l__law_value ci__law_value k__law_value
  have F__law_is_own := fun_mk (st := s__law_is_own) l__law_is_own ci__law_is_own k__law_is_own
  have F__law_right := funC_mk (st := s__law_right) l__law_right ci__law_right k__law_right
  have F_law := funC_mk (st := s_law) l_law ci_law k_law
  have cl_Plan : Cls K C_Plan := ⟨pg_Plan, hdd_Plan, po_Plan, csa_Plan⟩
  have T : Tx l.prog w K mg { C := fun x => if x = "BadPlan" then C_BadPlan else if x = "Plan" then C_Plan else if x = "LightError" then C_LightError else if x = "DEFAULTS" then K_DEFAULTS else if x = "CHOICES" then K_CHOICES else if x = "BOUNDS" then K_BOUNDS else 0, I_BadPlan := f_BadPlan, a_is_integer := a_is_integer, a_is_in := a_is_in, a_in_table := a_in_table, a_chosen := a_chosen, a_Plan___init__ := a_Plan___init__, a_Plan_row := a_Plan_row, a_Plan___eq__ := a_Plan___eq__, a_Plan_changed := a_Plan_changed, a__law_dice := a__law_dice, a__law_roll := a__law_roll, a__law_pick := a__law_pick, a__law_odd_values := a__law_odd_values, a__law_l_choices := a__law_l_choices, a__law_l_wide := a__law_l_wide, a__law_l_plan := a__law_l_plan, a__law_l_table := a__law_l_table, a__law_l_first_bad := a__law_l_first_bad, a__law_l_with := a__law_l_with, a__law_met := a__law_met, a__law_due := a__law_due, a__law_value := a__law_value, a__law_is_own := a__law_is_own, a__law_right := a__law_right, a_law := a_law, fd_is_integer := _, fd_is_in := _, fd_in_table := _, fd_chosen := _, fd_Plan_row := _, fd_Plan___eq__ := _, fd__law_dice := _, fd__law_roll := _, fd__law_pick := _, fd__law_odd_values := _, fd__law_l_choices := _, fd__law_l_wide := _, fd__law_l_plan := _, fd__law_l_table := _, fd__law_l_first_bad := _, fd__law_l_with := _, fd__law_met := _, fd__law_due := _, fd__law_value := _, fd__law_is_own := _, fd__law_right := _, fd_law := _, c__law_right := c__law_right, p__law_right := p__law_right, c_law := c_law, p_law := p_law, v_DEFAULTS := v_DEFAULTS, v_CHOICES := v_CHOICES, v_BOUNDS := v_BOUNDS } := {
    g_Plan := PySem.W.mg_of X G gC_Plan
    cl_Plan := cl_Plan
    mk_Plan := ⟨mks_Plan, me_Plan___init__, fn_Plan___init__, kC_Plan⟩
    me_Plan_row := ⟨me_Plan_row, fn_Plan_row, k_Plan_row⟩
    me_Plan___eq__ := ⟨me_Plan___eq__, fn_Plan___eq__, k_Plan___eq__⟩
    me_Plan_changed := ⟨me_Plan_changed, fn_Plan_changed, k_Plan_changed⟩
    xc_BadPlan := { cl := isC_BadPlan, hg := ga_BadPlan, hk := gg_BadPlan, hs := ex_BadPlan, ha := xa_BadPlan, hn := ocg, ht := oct, hm := xm_BadPlan }
    pk := { ch := ktup_strs kl_CHOICES kv_CHOICES (by decide), df := wr_dat kl_DEFAULTS kv_DEFAULTS ks_DEFAULTS pint_rel pint_at (by decide +kernel) (by decide) rfl, bd := wr_dat kl_BOUNDS kv_BOUNDS ks_BOUNDS ptwo_rel ptwo_at (show (["rows", "lamps", "crews", "work", "every", "early", "sync", "burst", "gap", "trips", "drift", "cloud", "most", "fixed", "spare"] : List Str).Nodup from by decide +kernel) (by simp) rfl, ob := { cl := cl_Plan, ca := oa_Plan, cg := ocg, ct := oct, co := oo_Plan, k1 := ok0_Plan, k2 := ok1_Plan, k3 := ok2_Plan, k4 := ok3_Plan, k5 := ok4_Plan, k6 := ok5_Plan, k7 := ok6_Plan }, na := (List.forall_mem_cons.mpr ⟨na_Plan__found, (List.forall_mem_cons.mpr ⟨na_Plan_rows, (List.forall_mem_cons.mpr ⟨na_Plan_lamps, (List.forall_mem_cons.mpr ⟨na_Plan_crews, (List.forall_mem_cons.mpr ⟨na_Plan_work, (List.forall_mem_cons.mpr ⟨na_Plan_every, (List.forall_mem_cons.mpr ⟨na_Plan_early, (List.forall_mem_cons.mpr ⟨na_Plan_sync, (List.forall_mem_cons.mpr ⟨na_Plan_burst, (List.forall_mem_cons.mpr ⟨na_Plan_gap, (List.forall_mem_cons.mpr ⟨na_Plan_trips, (List.forall_mem_cons.mpr ⟨na_Plan_drift, (List.forall_mem_cons.mpr ⟨na_Plan_cloud, (List.forall_mem_cons.mpr ⟨na_Plan_most, (List.forall_mem_cons.mpr ⟨na_Plan_fixed, (List.forall_mem_cons.mpr ⟨na_Plan_spare, (fun _ z => nomatch z)⟩)⟩)⟩)⟩)⟩)⟩)⟩)⟩)⟩)⟩)⟩)⟩)⟩)⟩)⟩)⟩) }
    ne_Plan := { ne := ne1_Plan, co := oo_Plan }
    mx := { gl := PySem.W.mg_of X G gC_LightError, gv := PySem.W.mg_none_of X G n_ValueError, gi := PySem.W.mg_none_of X G n_isinstance, gr := PySem.W.mg_none_of X G n_repr, kl := kl_Light, kv := kv_Light, xc := { cl := isC_BadPlan, hg := ga_BadPlan, hk := gg_BadPlan, hs := ex_BadPlan, ha := xa_BadPlan, hn := ocg, ht := oct, hm := xm_BadPlan } }
    x_BadPlan := { fo := BX.flName, gC := PySem.W.mg_of X G gC_BadPlan, sup := sup, any := any, top := tsup, cls := ⟨_, _, _, _, _, _, _, _, _, _, _, _, _, _, _, cl_BadPlan, rf_BadPlan⟩, sa := sa_BadPlan, xf := ⟨ga_BadPlan, gg_BadPlan, ex_BadPlan, hd_BadPlan⟩, noN := no_BadPlan, iC := iC_BadPlan, tC := tC_BadPlan, kC := kC_BadPlan, tyC := ty_BadPlan, sup2 := su_BadPlan, sVE := sV_BadPlan, sCC := mC_BadPlan, fn := ⟨_, _, _, _, _, _, _, _, _, _, _, _, _, _, _, _, _, _, _, _, _, _, _, _, _, _, _, _, _, _, _, l_BadPlan, c_BadPlan, d_BadPlan, e_BadPlan, ff_BadPlan, cc__BadPlan, ln_BadPlan⟩ }
    te_BadPlan := exm_self ex_BadPlan isC_BadPlan ty_BadPlan sC_BadPlan
    n_ValueError := PySem.W.mg_none_of X G n_ValueError
    n_abs := PySem.W.mg_none_of X G n_abs
    n_bool := PySem.W.mg_none_of X G n_bool
    n_dict := PySem.W.mg_none_of X G n_dict
    n_int := PySem.W.mg_none_of X G n_int
    n_isinstance := PySem.W.mg_none_of X G n_isinstance
    n_len := PySem.W.mg_none_of X G n_len
    n_list := PySem.W.mg_none_of X G n_list
    n_max := PySem.W.mg_none_of X G n_max
    n_min := PySem.W.mg_none_of X G n_min
    n_range := PySem.W.mg_none_of X G n_range
    n_repr := PySem.W.mg_none_of X G n_repr
    n_tuple := PySem.W.mg_none_of X G n_tuple
    g_is_integer := PySem.W.mg_of X G ga_is_integer
    F_is_integer := F_is_integer
    b_is_integer := F_is_integer.binds fun _ _ _ _ _ _ us hl => match us, hl with | [_], _ => rfl
    g_is_in := PySem.W.mg_of X G ga_is_in
    F_is_in := F_is_in
    b_is_in := F_is_in.binds fun _ _ _ _ _ _ us hl => match us, hl with | [_, _, _], _ => rfl
    g_in_table := PySem.W.mg_of X G ga_in_table
    F_in_table := F_in_table
    b_in_table := F_in_table.binds fun _ _ _ _ _ _ us hl => match us, hl with | [_, _], _ => rfl
    g_chosen := PySem.W.mg_of X G ga_chosen
    F_chosen := F_chosen
    b_chosen := F_chosen.binds fun _ _ _ _ _ _ us hl => match us, hl with | [_], _ => rfl
    F_Plan___init__ := F_Plan___init__
    F_Plan_row := F_Plan_row
    b_Plan_row := F_Plan_row.binds fun _ _ _ _ _ _ us hl => match us, hl with | [_], _ => rfl
    F_Plan___eq__ := F_Plan___eq__
    b_Plan___eq__ := F_Plan___eq__.binds fun _ _ _ _ _ _ us hl => match us, hl with | [_, _], _ => rfl
    F_Plan_changed := F_Plan_changed
    g__law_dice := PySem.W.mg_of X G ga__law_dice
    F__law_dice := F__law_dice
    b__law_dice := F__law_dice.binds fun _ _ _ _ _ _ us hl => match us, hl with | [_, _], _ => rfl
    g__law_roll := PySem.W.mg_of X G ga__law_roll
    F__law_roll := F__law_roll
    b__law_roll := F__law_roll.binds fun _ _ _ _ _ _ us hl => match us, hl with | [_, _], _ => rfl
    g__law_pick := PySem.W.mg_of X G ga__law_pick
    F__law_pick := F__law_pick
    b__law_pick := F__law_pick.binds fun _ _ _ _ _ _ us hl => match us, hl with | [_, _], _ => rfl
    g__law_odd_values := PySem.W.mg_of X G ga__law_odd_values
    F__law_odd_values := F__law_odd_values
    b__law_odd_values := F__law_odd_values.binds fun _ _ _ _ _ _ us hl => match us, hl with | [_], _ => rfl
    g__law_l_choices := PySem.W.mg_of X G ga__law_l_choices
    F__law_l_choices := F__law_l_choices
    b__law_l_choices := F__law_l_choices.binds fun _ _ _ _ _ _ us hl => match us, hl with | [_], _ => rfl
    g__law_l_wide := PySem.W.mg_of X G ga__law_l_wide
    F__law_l_wide := F__law_l_wide
    b__law_l_wide := F__law_l_wide.binds fun _ _ _ _ _ _ us hl => match us, hl with | [_], _ => rfl
    g__law_l_plan := PySem.W.mg_of X G ga__law_l_plan
    F__law_l_plan := F__law_l_plan
    b__law_l_plan := F__law_l_plan.binds fun _ _ _ _ _ _ us hl => match us, hl with | [_], _ => rfl
    g__law_l_table := PySem.W.mg_of X G ga__law_l_table
    F__law_l_table := F__law_l_table
    b__law_l_table := F__law_l_table.binds fun _ _ _ _ _ _ us hl => match us, hl with | [], _ => rfl
    g__law_l_first_bad := PySem.W.mg_of X G ga__law_l_first_bad
    F__law_l_first_bad := F__law_l_first_bad
    b__law_l_first_bad := F__law_l_first_bad.binds fun _ _ _ _ _ _ us hl => match us, hl with | [_], _ => rfl
    g__law_l_with := PySem.W.mg_of X G ga__law_l_with
    F__law_l_with := F__law_l_with
    b__law_l_with := F__law_l_with.binds fun _ _ _ _ _ _ us hl => match us, hl with | [_, _, _], _ => rfl
    g__law_met := PySem.W.mg_of X G ga__law_met
    F__law_met := F__law_met
    b__law_met := F__law_met.binds fun _ _ _ _ _ _ us hl => match us, hl with | [_], _ => rfl
    g__law_due := PySem.W.mg_of X G ga__law_due
    F__law_due := F__law_due
    b__law_due := F__law_due.binds fun _ _ _ _ _ _ us hl => match us, hl with | [_], _ => rfl
    g__law_value := PySem.W.mg_of X G ga__law_value
    F__law_value := F__law_value
    b__law_value := F__law_value.binds fun _ _ _ _ _ _ us hl => match us, hl with | [_, _, _], _ => rfl
    g__law_is_own := PySem.W.mg_of X G ga__law_is_own
    F__law_is_own := F__law_is_own
    b__law_is_own := F__law_is_own.binds fun _ _ _ _ _ _ us hl => match us, hl with | [_, _], _ => rfl
    g__law_right := PySem.W.mg_of X G ga__law_right
    F__law_right := F__law_right
    b__law_right := F__law_right.binds fun _ _ _ _ _ _ us hl => match us, hl with | [_], _ => rfl
    g_law := PySem.W.mg_of X G ga_law
    F_law := F_law
    b_law := F_law.binds fun _ _ _ _ _ _ us hl => match us, hl with | [_], _ => rfl
    c_DEFAULTS := PySem.W.mg_of X G cc_DEFAULTS
    r_DEFAULTS := cr_DEFAULTS
    c_CHOICES := PySem.W.mg_of X G cc_CHOICES
    r_CHOICES := cr_CHOICES
    c_BOUNDS := PySem.W.mg_of X G cc_BOUNDS
    r_BOUNDS := cr_BOUNDS
  }
  refine GdX.law_atG (K := K) (R := R_law l.prog w K _ _) (ta := _) (cs := [(c__law_right, p__law_right), (c_law, p_law)]) ?hT ?nT ?hC ?hb ?hcs (fun ns hn => .mk hn) fun base hb hg TB => ok_law (w := w) (base := base) T ?hTB
  case hb => exact fun _ _ => .of_eq rfl
  case hT => simp only [List.forall_mem_cons]; exact ⟨hp__law_right, hp_law, fun _ z => nomatch z⟩
  case nT => simp only [List.forall_mem_cons]; exact ⟨np__law_right, np_law, fun _ z => nomatch z⟩
  case hC => simp only [List.forall_mem_cons]; exact ⟨PySem.W.codeHd_of_K X hd__law_right, PySem.W.codeHd_of_K X hd_law, fun _ z => nomatch z⟩
  case hcs => simp only [Ad.T, List.forall_mem_cons]; exact ⟨⟨c__law_right, by simp⟩, ⟨c_law, by simp⟩, fun _ z => nomatch z⟩
  case hTB =>
    simp only [List.forall_mem_cons] at TB
    obtain ⟨t__law_right, t_law, _⟩ := TB
    exact ⟨⟨t__law_right, t_law⟩, ⟨by simpa [Ad.T] using dif⟩⟩
end K11

open PySem PySem.W PyProof.Rows
set_option maxRecDepth 100000 in
set_option maxHeartbeats 0 in
theorem PySem.Challenge.cw_streetslit_k11_plans_made_and_refused_holds : PySem.Challenge.rw_streetslit_k11_plans_made_and_refused.Holds := by
  w_on; o_law; k_head; (case hw => w_witness2)
  k_fill
  refine GdX.walk_ofG (l := PySem.Challenge.rw_streetslit_k11_plans_made_and_refused) (n := 63) (k := 12) (x := "script") (CX := fun w => L2.CX (PySem.Challenge.rw_streetslit_k11_plans_made_and_refused).prog w) rfl (by decide) rfl ⟨rfl, by decide, by decide⟩ (fun w h Y => PySem.W.km_in_of Y) ?F (fun w H s e s' z => DL.cx_no z)
  case F =>
    intro w mg fa h Y KX G hmg
    have hTs := PySem.W.km_tabs_of Y
    refine' K11.all_mk KX G hmg rfl ?gC_BadPlan ?cl_BadPlan ?rf_BadPlan ?sa_BadPlan ?ga_BadPlan ?gg_BadPlan ?ex_BadPlan ?hd_BadPlan ?no_BadPlan ?iC_BadPlan ?tC_BadPlan ?kC_BadPlan ?ty_BadPlan ?isC_BadPlan ?su_BadPlan ?sV_BadPlan ?sC_BadPlan ?mC_BadPlan ?l_BadPlan ?c_BadPlan ?d_BadPlan ?e_BadPlan ?ff_BadPlan ?cc__BadPlan ?ln_BadPlan ?sup ?any ?tsup ?n_ValueError ?n_abs ?n_bool ?n_dict ?n_int ?n_isinstance ?n_len ?n_list ?n_max ?n_min ?n_range ?n_repr ?n_tuple ?gC_Plan ?pg_Plan ?hdd_Plan ?po_Plan ?csa_Plan ?mks_Plan ?kC_Plan ?ga_is_integer ?l_is_integer ?ci_is_integer ?k_is_integer ?ga_is_in ?l_is_in ?ci_is_in ?k_is_in ?ga_in_table ?l_in_table ?ci_in_table ?k_in_table ?ga_chosen ?l_chosen ?ci_chosen ?k_chosen ?me_Plan___init__ ?fn_Plan___init__ ?l_Plan___init__ ?ci_Plan___init__ ?k_Plan___init__ ?me_Plan_row ?fn_Plan_row ?l_Plan_row ?ci_Plan_row ?k_Plan_row ?me_Plan___eq__ ?fn_Plan___eq__ ?l_Plan___eq__ ?ci_Plan___eq__ ?k_Plan___eq__ ?me_Plan_changed ?fn_Plan_changed ?l_Plan_changed ?ci_Plan_changed ?k_Plan_changed ?ga__law_dice ?l__law_dice ?ci__law_dice ?k__law_dice ?ga__law_roll ?l__law_roll ?ci__law_roll ?k__law_roll ?ga__law_pick ?l__law_pick ?ci__law_pick ?k__law_pick ?ga__law_odd_values ?l__law_odd_values ?ci__law_odd_values ?k__law_odd_values ?ga__law_l_choices ?l__law_l_choices ?ci__law_l_choices ?k__law_l_choices ?ga__law_l_wide ?l__law_l_wide ?ci__law_l_wide ?k__law_l_wide ?ga__law_l_plan ?l__law_l_plan ?ci__law_l_plan ?k__law_l_plan ?ga__law_l_table ?l__law_l_table ?ci__law_l_table ?k__law_l_table ?ga__law_l_first_bad ?l__law_l_first_bad ?ci__law_l_first_bad ?k__law_l_first_bad ?ga__law_l_with ?l__law_l_with ?ci__law_l_with ?k__law_l_with ?ga__law_met ?l__law_met ?ci__law_met ?k__law_met ?ga__law_due ?l__law_due ?ci__law_due ?k__law_due ?ga__law_value ?l__law_value ?ci__law_value ?k__law_value ?ga__law_is_own ?l__law_is_own ?ci__law_is_own ?k__law_is_own ?ga__law_right ?l__law_right ?ci__law_right ?k__law_right ?lc__law_right ?pc__law_right ?hd__law_right ?np__law_right ?hp__law_right ?ga_law ?l_law ?ci_law ?k_law ?lc_law ?pc_law ?hd_law ?np_law ?hp_law ?cc_DEFAULTS ?cr_DEFAULTS ?cc_CHOICES ?cr_CHOICES ?cc_BOUNDS ?cr_BOUNDS ?ocg ?oct ?kl_CHOICES ?kv_CHOICES ?kl_DEFAULTS ?kv_DEFAULTS ?ks_DEFAULTS ?kl_BOUNDS ?kv_BOUNDS ?ks_BOUNDS ?oa_Plan ?oo_Plan ?ok0_Plan ?ok1_Plan ?ok2_Plan ?ok3_Plan ?ok4_Plan ?ok5_Plan ?ok6_Plan ?na_Plan__found ?na_Plan_rows ?na_Plan_lamps ?na_Plan_crews ?na_Plan_work ?na_Plan_every ?na_Plan_early ?na_Plan_sync ?na_Plan_burst ?na_Plan_gap ?na_Plan_trips ?na_Plan_drift ?na_Plan_cloud ?na_Plan_most ?na_Plan_fixed ?na_Plan_spare ?ne1_Plan ?gC_LightError ?kl_Light ?kv_Light ?xa_BadPlan ?xm_BadPlan ?dif
    (case gC_BadPlan => first | k_is | rfl)
    (case cl_BadPlan => first | k_is | rfl)
    (case rf_BadPlan => rfl)
    (case sa_BadPlan => first | k_is | rfl)
    (case ga_BadPlan => first | k_is | rfl)
    (case gg_BadPlan => first | k_is | rfl)
    (case ex_BadPlan => first | k_is | rfl)
    (case hd_BadPlan => first | k_is | rfl)
    (case no_BadPlan => first | k_is | rfl)
    (case iC_BadPlan => first | k_is | rfl)
    (case tC_BadPlan => first | k_is | rfl)
    (case kC_BadPlan => first | k_is | rfl)
    (case ty_BadPlan => first | k_is | rfl)
    (case isC_BadPlan => first | k_is | rfl)
    (case su_BadPlan => kernel_rfl)
    (case sV_BadPlan => first | k_is | rfl)
    (case sC_BadPlan => first | k_is | rfl)
    (case mC_BadPlan => first | k_is | rfl)
    (case l_BadPlan => first | k_is | rfl)
    (case c_BadPlan => first | k_is | rfl)
    (case d_BadPlan => first | k_is | rfl)
    (case e_BadPlan => rfl)
    (case ff_BadPlan => first | rfl | decide +kernel)
    (case cc__BadPlan => first | k_is | rfl)
    (case ln_BadPlan => first | rfl | decide +kernel)
    (case sup => first | k_is | rfl)
    (case any => first | k_is | rfl)
    (case tsup => first | rfl | decide +kernel | kernel_rfl)
    (case n_ValueError => first | k_is | rfl)
    (case n_abs => first | k_is | rfl)
    (case n_bool => first | k_is | rfl)
    (case n_dict => first | k_is | rfl)
    (case n_int => first | k_is | rfl)
    (case n_isinstance => first | k_is | rfl)
    (case n_len => first | k_is | rfl)
    (case n_list => first | k_is | rfl)
    (case n_max => first | k_is | rfl)
    (case n_min => first | k_is | rfl)
    (case n_range => first | k_is | rfl)
    (case n_repr => first | k_is | rfl)
    (case n_tuple => first | k_is | rfl)
    (case gC_Plan => first | k_is | rfl)
    (case pg_Plan => first | k_is | rfl)
    (case hdd_Plan => first | k_is | rfl)
    (case po_Plan => first | k_is | rfl)
    (case csa_Plan => first | k_is | rfl)
    (case mks_Plan => first | k_is | rfl)
    (case kC_Plan => first | k_is | rfl)
    (case ga_is_integer => first | k_is | rfl)
    (case l_is_integer => first | k_is | rfl)
    (case ci_is_integer => first | k_is | rfl)
    (case k_is_integer => first | k_is | rfl)
    (case ga_is_in => first | k_is | rfl)
    (case l_is_in => first | k_is | rfl)
    (case ci_is_in => first | k_is | rfl)
    (case k_is_in => first | k_is | rfl)
    (case ga_in_table => first | k_is | rfl)
    (case l_in_table => first | k_is | rfl)
    (case ci_in_table => first | k_is | rfl)
    (case k_in_table => first | k_is | rfl)
    (case ga_chosen => first | k_is | rfl)
    (case l_chosen => first | k_is | rfl)
    (case ci_chosen => first | k_is | rfl)
    (case k_chosen => first | k_is | rfl)
    (case me_Plan___init__ => first | k_is | rfl)
    (case fn_Plan___init__ => first | k_is | rfl)
    (case l_Plan___init__ => first | k_is | rfl)
    (case ci_Plan___init__ => first | k_is | rfl)
    (case k_Plan___init__ => first | k_is | rfl)
    (case me_Plan_row => first | k_is | rfl)
    (case fn_Plan_row => first | k_is | rfl)
    (case l_Plan_row => first | k_is | rfl)
    (case ci_Plan_row => first | k_is | rfl)
    (case k_Plan_row => first | k_is | rfl)
    (case me_Plan___eq__ => first | k_is | rfl)
    (case fn_Plan___eq__ => first | k_is | rfl)
    (case l_Plan___eq__ => first | k_is | rfl)
    (case ci_Plan___eq__ => first | k_is | rfl)
    (case k_Plan___eq__ => first | k_is | rfl)
    (case me_Plan_changed => first | k_is | rfl)
    (case fn_Plan_changed => first | k_is | rfl)
    (case l_Plan_changed => first | k_is | rfl)
    (case ci_Plan_changed => first | k_is | rfl)
    (case k_Plan_changed => first | k_is | rfl)
    (case ga__law_dice => first | k_is | rfl)
    (case l__law_dice => first | k_is | rfl)
    (case ci__law_dice => first | k_is | rfl)
    (case k__law_dice => first | k_is | rfl)
    (case ga__law_roll => first | k_is | rfl)
    (case l__law_roll => first | k_is | rfl)
    (case ci__law_roll => first | k_is | rfl)
    (case k__law_roll => first | k_is | rfl)
    (case ga__law_pick => first | k_is | rfl)
    (case l__law_pick => first | k_is | rfl)
    (case ci__law_pick => first | k_is | rfl)
    (case k__law_pick => first | k_is | rfl)
    (case ga__law_odd_values => first | k_is | rfl)
    (case l__law_odd_values => first | k_is | rfl)
    (case ci__law_odd_values => first | k_is | rfl)
    (case k__law_odd_values => first | k_is | rfl)
    (case ga__law_l_choices => first | k_is | rfl)
    (case l__law_l_choices => first | k_is | rfl)
    (case ci__law_l_choices => first | k_is | rfl)
    (case k__law_l_choices => first | k_is | rfl)
    (case ga__law_l_wide => first | k_is | rfl)
    (case l__law_l_wide => first | k_is | rfl)
    (case ci__law_l_wide => first | k_is | rfl)
    (case k__law_l_wide => first | k_is | rfl)
    (case ga__law_l_plan => first | k_is | rfl)
    (case l__law_l_plan => first | k_is | rfl)
    (case ci__law_l_plan => first | k_is | rfl)
    (case k__law_l_plan => first | k_is | rfl)
    (case ga__law_l_table => first | k_is | rfl)
    (case l__law_l_table => first | k_is | rfl)
    (case ci__law_l_table => first | k_is | rfl)
    (case k__law_l_table => first | k_is | rfl)
    (case ga__law_l_first_bad => first | k_is | rfl)
    (case l__law_l_first_bad => first | k_is | rfl)
    (case ci__law_l_first_bad => first | k_is | rfl)
    (case k__law_l_first_bad => first | k_is | rfl)
    (case ga__law_l_with => first | k_is | rfl)
    (case l__law_l_with => first | k_is | rfl)
    (case ci__law_l_with => first | k_is | rfl)
    (case k__law_l_with => first | k_is | rfl)
    (case ga__law_met => first | k_is | rfl)
    (case l__law_met => first | k_is | rfl)
    (case ci__law_met => first | k_is | rfl)
    (case k__law_met => first | k_is | rfl)
    (case ga__law_due => first | k_is | rfl)
    (case l__law_due => first | k_is | rfl)
    (case ci__law_due => first | k_is | rfl)
    (case k__law_due => first | k_is | rfl)
    (case ga__law_value => first | k_is | rfl)
    (case l__law_value => first | k_is | rfl)
    (case ci__law_value => first | k_is | rfl)
    (case k__law_value => first | k_is | rfl)
    (case ga__law_is_own => first | k_is | rfl)
    (case l__law_is_own => first | k_is | rfl)
    (case ci__law_is_own => first | k_is | rfl)
    (case k__law_is_own => first | k_is | rfl)
    (case ga__law_right => first | k_is | rfl)
    (case l__law_right => first | k_is | rfl)
    (case ci__law_right => first | k_is | rfl)
    (case k__law_right => first | k_is | rfl)
    (case lc__law_right => first | k_is | rfl)
    (case pc__law_right => rfl)
    (case hd__law_right => kernel_rfl)
    (case np__law_right => kernel_rfl)
    (case hp__law_right => exact hTs _ (by decide))
    (case ga_law => first | k_is | rfl)
    (case l_law => first | k_is | rfl)
    (case ci_law => first | k_is | rfl)
    (case k_law => first | k_is | rfl)
    (case lc_law => first | k_is | rfl)
    (case pc_law => rfl)
    (case hd_law => kernel_rfl)
    (case np_law => kernel_rfl)
    (case hp_law => exact hTs _ (by decide))
    (case cc_DEFAULTS => first | k_is | rfl)
    (case cr_DEFAULTS => first | exact ⟨_, rfl⟩ | rfl)
    (case cc_CHOICES => first | k_is | rfl)
    (case cr_CHOICES => first | exact ⟨_, rfl⟩ | rfl)
    (case cc_BOUNDS => first | k_is | rfl)
    (case cr_BOUNDS => first | exact ⟨_, rfl⟩ | rfl)
    (case ocg => first | k_is | rfl)
    (case oct => first | k_is | rfl)
    (case kl_CHOICES => first | k_is | rfl)
    (case kv_CHOICES => exact ⟨⟨_, rfl⟩, ⟨⟨_, rfl⟩, ⟨⟨_, rfl⟩, ⟨⟨_, rfl⟩, ⟨⟨_, rfl⟩, ⟨⟨_, rfl⟩, ⟨⟨_, rfl⟩, ⟨⟨_, rfl⟩, ⟨⟨_, rfl⟩, ⟨⟨_, rfl⟩, ⟨⟨_, rfl⟩, ⟨⟨_, rfl⟩, ⟨⟨_, rfl⟩, ⟨⟨_, rfl⟩, ⟨⟨_, rfl⟩, trivial⟩⟩⟩⟩⟩⟩⟩⟩⟩⟩⟩⟩⟩⟩⟩)
    (case kl_DEFAULTS => first | k_is | rfl)
    (case kv_DEFAULTS => exact ⟨⟨_, rfl⟩, rfl, ⟨_, _, rfl, rfl, rfl⟩, ⟨⟨_, rfl⟩, rfl, ⟨_, _, rfl, rfl, rfl⟩, ⟨⟨_, rfl⟩, rfl, ⟨_, _, rfl, rfl, rfl⟩, ⟨⟨_, rfl⟩, rfl, ⟨_, _, rfl, rfl, rfl⟩, ⟨⟨_, rfl⟩, rfl, ⟨_, _, rfl, rfl, rfl⟩, ⟨⟨_, rfl⟩, rfl, ⟨_, _, rfl, rfl, rfl⟩, ⟨⟨_, rfl⟩, rfl, ⟨_, _, rfl, rfl, rfl⟩, ⟨⟨_, rfl⟩, rfl, ⟨_, _, rfl, rfl, rfl⟩, ⟨⟨_, rfl⟩, rfl, ⟨_, _, rfl, rfl, rfl⟩, ⟨⟨_, rfl⟩, rfl, ⟨_, _, rfl, rfl, rfl⟩, ⟨⟨_, rfl⟩, rfl, ⟨_, _, rfl, rfl, rfl⟩, ⟨⟨_, rfl⟩, rfl, ⟨_, _, rfl, rfl, rfl⟩, ⟨⟨_, rfl⟩, rfl, ⟨_, _, rfl, rfl, rfl⟩, ⟨⟨_, rfl⟩, rfl, ⟨_, _, rfl, rfl, rfl⟩, ⟨⟨_, rfl⟩, rfl, ⟨_, _, rfl, rfl, rfl⟩, trivial⟩⟩⟩⟩⟩⟩⟩⟩⟩⟩⟩⟩⟩⟩⟩)
    (case ks_DEFAULTS => first | rfl | decide +kernel)
    (case kl_BOUNDS => first | k_is | rfl)
    (case kv_BOUNDS => exact ⟨⟨_, rfl⟩, rfl, ⟨_, _, _, rfl, rfl, rfl, ⟨_, _, _, _, (by first | k_is | rfl), _, _, rfl⟩⟩, ⟨⟨_, rfl⟩, rfl, ⟨_, _, _, rfl, rfl, rfl, ⟨_, _, _, _, (by first | k_is | rfl), _, _, rfl⟩⟩, ⟨⟨_, rfl⟩, rfl, ⟨_, _, _, rfl, rfl, rfl, ⟨_, _, _, _, (by first | k_is | rfl), _, _, rfl⟩⟩, ⟨⟨_, rfl⟩, rfl, ⟨_, _, _, rfl, rfl, rfl, ⟨_, _, _, _, (by first | k_is | rfl), _, _, rfl⟩⟩, ⟨⟨_, rfl⟩, rfl, ⟨_, _, _, rfl, rfl, rfl, ⟨_, _, _, _, (by first | k_is | rfl), _, _, rfl⟩⟩, ⟨⟨_, rfl⟩, rfl, ⟨_, _, _, rfl, rfl, rfl, ⟨_, _, _, _, (by first | k_is | rfl), _, _, rfl⟩⟩, ⟨⟨_, rfl⟩, rfl, ⟨_, _, _, rfl, rfl, rfl, ⟨_, _, _, _, (by first | k_is | rfl), _, _, rfl⟩⟩, ⟨⟨_, rfl⟩, rfl, ⟨_, _, _, rfl, rfl, rfl, ⟨_, _, _, _, (by first | k_is | rfl), _, _, rfl⟩⟩, ⟨⟨_, rfl⟩, rfl, ⟨_, _, _, rfl, rfl, rfl, ⟨_, _, _, _, (by first | k_is | rfl), _, _, rfl⟩⟩, ⟨⟨_, rfl⟩, rfl, ⟨_, _, _, rfl, rfl, rfl, ⟨_, _, _, _, (by first | k_is | rfl), _, _, rfl⟩⟩, ⟨⟨_, rfl⟩, rfl, ⟨_, _, _, rfl, rfl, rfl, ⟨_, _, _, _, (by first | k_is | rfl), _, _, rfl⟩⟩, ⟨⟨_, rfl⟩, rfl, ⟨_, _, _, rfl, rfl, rfl, ⟨_, _, _, _, (by first | k_is | rfl), _, _, rfl⟩⟩, ⟨⟨_, rfl⟩, rfl, ⟨_, _, _, rfl, rfl, rfl, ⟨_, _, _, _, (by first | k_is | rfl), _, _, rfl⟩⟩, ⟨⟨_, rfl⟩, rfl, ⟨_, _, _, rfl, rfl, rfl, ⟨_, _, _, _, (by first | k_is | rfl), _, _, rfl⟩⟩, ⟨⟨_, rfl⟩, rfl, ⟨_, _, _, rfl, rfl, rfl, ⟨_, _, _, _, (by first | k_is | rfl), _, _, rfl⟩⟩, trivial⟩⟩⟩⟩⟩⟩⟩⟩⟩⟩⟩⟩⟩⟩⟩)
    (case ks_BOUNDS => first | rfl | decide +kernel)
    (case oa_Plan => first | k_is | rfl)
    (case oo_Plan => first | k_is | rfl)
    (case ok0_Plan => first | k_is | rfl | kernel_rfl)
    (case ok1_Plan => first | k_is | rfl | kernel_rfl)
    (case ok2_Plan => first | k_is | rfl | kernel_rfl)
    (case ok3_Plan => first | k_is | rfl | kernel_rfl)
    (case ok4_Plan => first | k_is | rfl | kernel_rfl)
    (case ok5_Plan => first | k_is | rfl | kernel_rfl)
    (case ok6_Plan => first | k_is | rfl | kernel_rfl)
    (case na_Plan__found => first | k_is | rfl)
    (case na_Plan_rows => first | k_is | rfl)
    (case na_Plan_lamps => first | k_is | rfl)
    (case na_Plan_crews => first | k_is | rfl)
    (case na_Plan_work => first | k_is | rfl)
    (case na_Plan_every => first | k_is | rfl)
    (case na_Plan_early => first | k_is | rfl)
    (case na_Plan_sync => first | k_is | rfl)
    (case na_Plan_burst => first | k_is | rfl)
    (case na_Plan_gap => first | k_is | rfl)
    (case na_Plan_trips => first | k_is | rfl)
    (case na_Plan_drift => first | k_is | rfl)
    (case na_Plan_cloud => first | k_is | rfl)
    (case na_Plan_most => first | k_is | rfl)
    (case na_Plan_fixed => first | k_is | rfl)
    (case na_Plan_spare => first | k_is | rfl)
    (case ne1_Plan => first | k_is | rfl)
    (case gC_LightError => first | k_is | rfl)
    (case kl_Light => first | k_is | rfl | kernel_rfl)
    (case kv_Light => first | k_is | rfl | kernel_rfl)
    (case xa_BadPlan => first | k_is | rfl)
    (case xm_BadPlan => first | k_is | rfl)
    (case dif => first | rfl | decide +kernel | kernel_rfl)
