import PyProof.Rows.All
import Wide.All
import OpenK.AllK
import Wide.FinOn
import PyProof.EqAt
import PyProof.EqKinds
import PyProof.TupleCall
import HandS.ForExc
import HandS.ExcField
import HandS.Lambda
import HandS.EndTab
import KE.KExcSuper
import HandS.Deep
import HandS.TupAny
import HandS.IsInst
import HandS.Style
import HandS.Flow
import HandS.WordsExc
import HandS.TupMul
import HandS.Wide
import HandS.Conv
import HandS.SortInts
import HandS.Text
import PyProof.P3In
import HandS.Star
import KE.GoesMore
import HandS.Zip
import HandS.ExcValue
import HandS.ExcOwn
import HandS.Dict
import HandS.Small
import HandS.Iter
import KE.DatumOrd
import PySem.Challenge.RW_streetslit_k07_whole_faults_that_wait
set_option Elab.async false
set_option linter.all false
set_option maxRecDepth 100000
set_option maxHeartbeats 2000000
/-! own exceptions: class X(L): def __init__(self, f): super().__init__(f); self.f = f -/
namespace BX
open PySem PySem.W PySem.Calls PyProof.Rows PySem.HandSPX
/-- the body of such an __init__ -/
def iB (fl : Str) (a b c d e f g h i j : Pos) : List Stmt :=
  [.Expr (.Call (.Attribute (.Call (.Name "super" a) [] [] b) "__init__" c) [.Name fl d] [] e) f,
   .Assign [.Attribute (.Name "self" g) fl h] (.Name fl i) j]
def iA (fl : Str) (p1 p2 : Pos) : Arguments := { posonlyargs := [], args := [{ arg := "self", annotation := none, pos := p1 }, { arg := fl, annotation := none, pos := p2 }], vararg := none, kwonlyargs := [], kw_defaults := [], kwarg := none, defaults := [] }
def iS (fl : Str) : Scope := { kind := .function, names := [(PySem.Str.ofString "self", .local), (fl, .local), (PySem.Str.ofString "__class__", .free), (PySem.Str.ofString "super", .globalImplicit)], isGenerator := false, isCoroutine := false, more := [] }
/-- a field's name that is no other name of the scope -/
structure FlOk (fl : Str) : Prop where
  n1 : ¬ fl = ("self" : Str)
  n2 : ¬ fl = ("__class__" : Str)
  n3 : ¬ fl = ("super" : Str)
  n4 : (fl == ("__debug__" : Str)) = false
  bd : ∀ (qual : Str) (p1 p2 : Pos) (body : List Stmt) (doc pm cdv ct u v : Value) (an : Option Addr) (cc : Addr), bindArgs (ksFn "__init__" qual (iA fl p1 p2) body (iS fl) .none .none doc pm an cdv ct cc) ⟨[u, v], []⟩ = pure [(("self" : Str), u), (fl, v)]
theorem flName : FlOk "name" := ⟨by decide +kernel, by decide +kernel, by decide +kernel, by decide +kernel, fun _ _ _ _ _ _ _ _ _ _ _ _ => rfl⟩
theorem flWord : FlOk "word" := ⟨by decide +kernel, by decide +kernel, by decide +kernel, by decide +kernel, fun _ _ _ _ _ _ _ _ _ _ _ _ => rfl⟩
theorem flPlace : FlOk "place" := ⟨by decide +kernel, by decide +kernel, by decide +kernel, by decide +kernel, fun _ _ _ _ _ _ _ _ _ _ _ _ => rfl⟩
/-- what the written part says of the class nm at C, its __init__ at fI, the cell cc of its __class__ -/
structure ExTxt (prog : Program) (K : Frag) (mg : Str → Option Value) (nm fl : Str) (C fI : Addr) : Prop where
  fo : FlOk fl
  gC : mg nm = some (.ref C)
  sup : nsIn K mainGlobals "super" = some none
  any : nsIn K cStatics "thirdparty.any" = some none
  top : (prog.main.scope.names.lookup ("super" : Str)).isSome = false
  cls : ∃ nm q N bs bm sn sub ab col dd k0 k1 k2 k3 k5, K.lookup C = some (excClassObj nm q C N bs bm true sn sub ab col dd k0 k1 k2 k3 k5 "ValueError.__new__") ∧ refsVE bm = true
  sa : findIn K (.ref C) "__setattr__" = some (some (.builtin "object.__setattr__"))
  xf : L2.XfC K C
  noN : findIn K (.ref C) fl = some none
  iC : findIn K (.ref C) "__init__" = some (some (.ref fI))
  tC : typeIn K (.ref fI) = some (.type "function")
  kC : keepIn K (.ref C) = true
  tyC : typeIn K (.ref C) = some (.type "type")
  sup2 : ks_superIn K C C "__init__" = some (some (.builtin "ValueError.__init__"))
  sVE : subIn K (.ref C) (.type "ValueError") = some true
  sCC : mroIn K C (.ref C) = some true
  fn : ∃ (oc ccl ccc ct doc pm : Value) (od cdd ccd an : Option Addr) (osl ccs ccv : Array (Option Value)) (vs : Array Value) (file : Str) (tf : Tok) (qual : Str) (p1 p2 a b c d e f g h i j : Pos) (cda cc : Addr),
    K.lookup fI = some ⟨oc, od, .func (ksFn "__init__" qual (iA fl p1 p2) (iB fl a b c d e f g h i j) (iS fl) .none .none doc pm an (.ref cda) ct cc), osl⟩ ∧ codeIn K (.ref cda) qual = true ∧
    K.lookup cda = some ⟨ccl, cdd, .fields vs, ccs⟩ ∧ vs[2]? = some (.str file tf) ∧ ((prog.main.file : Str) == file) = true ∧
    K.lookup cc = some ⟨ccc, ccd, .cell (some (.ref C)), ccv⟩ ∧ (c.endLine == e.line) = true
theorem one_size (v : Value) : [v].length ≤ sizeLine := by
  rw [sizeLine_eq]
  exact (by decide : 1 ≤ 16777216)
theorem ldC {M : Model} {s : Shared} {name : Str} {scope : Scope} {L a cc : Addr} {cd : Value} {m : Str → Option Value} {x : Str} {pos : Pos} {v : Value} {Q : Value → Shared → Prop} {A : Around} {E : Value → Shared → Prop} (hn : s.heap.Ns L m) (hv : m x = some v) (h : Q v s)
    (hk : scope.kind = .function) (hl : scope.names.lookup x = some .local) (hd : (x == ("__debug__" : Str)) = false) :
    wpAny M A (eval (.Name x pos) (ksEnv name scope L a cd cc)) Q E s := wpAny_Name (wpAny_loadName_local hk hl hn hv h) hd
structure InitEnd (h h' : Heap) (x C dx t1 : Addr) (fl : Str) (v : Value) : Prop where
  keep : ∀ b o, b ≠ x → h.get? b = some o → h'.get? b = some o
  obj : h'.get? x = some { cls := .ref C, dict := some dx, data := .fields #[.ref t1, .none, .none, .none, .bool false, .none] }
  dbig : h.objs.size ≤ dx
  dne : dx ≠ x
  ns : h'.Ns1 dx (fun y => if y = fl then some v else none)
structure OwnMade (h h' : Heap) (e C d : Addr) (fl : Str) (v : Value) : Prop where
  keep : ∀ b o, h.get? b = some o → h'.get? b = some o
  new : h.objs.size ≤ e
  obj : ∃ oe vs, h'.get? e = some oe ∧ oe.cls = .ref C ∧ oe.dict = some d ∧ oe.data = .fields vs ∧ vs[1]? = some .none
  dbig : h.objs.size ≤ d
  dne : d ≠ e
  ns : h'.Ns1 d (fun y => if y = fl then some v else none)
section
variable {prog : Program} {w : World} {A : Around} {E : Value → Shared → Prop} {R : Result → Shared → Prop} {s : Shared} {K : Frag} {mg mgG mb : Str → Option Value} {C fI : Addr} {nm fl : Str}
/-- what a state must bring: the module's names, the built-in ones -/
structure Gnd (K : Frag) (h : Heap) (mg : Str → Option Value) : Prop where
  g : h.Ns mainGlobals mg
  b : ∃ mb, h.Ns builtinsNs mb ∧ mb "super" = some (.type "super")
theorem Gnd.keeps {h h' : Heap} (G : Gnd K h mg) (k : ∀ b o, h.get? b = some o → h'.get? b = some o) : Gnd K h' mg := by
  obtain ⟨g, mb, h1, h2⟩ := G
  exact ⟨g.keeps k, mb, h1.keeps k, h2⟩
theorem call_mw {u e t0 : Addr} {h : Heap} {g : Array GenState} {d : Drawn} {t : Nat} {os : OsState} {rest : List Value} {Q : Value → Shared → Prop} {nm q : Str} {N : Addr} {bs bm : List Value} {hdct : Bool} {sn : List Str} {sub : List Value} {ab : Bool} {col : Option Bool} {dd : Option Addr} {k0 k1 k2 k3 k5 : Option Value}
    (hC : h.get? C = some (excClassObj nm q C N bs bm hdct sn sub ab col dd k0 k1 k2 k3 k5 "ValueError.__new__")) (he : h.get? e = some (excO C t0)) (hu : h.get? u = some (kxs_mw "ValueError.__init__" e)) (hrest : rest.length ≤ sizeLine)
    (hq : ∀ h' t1, (∀ b o, b ≠ e → h.get? b = some o → h'.get? b = some o) → h'.get? e = some (excO C t1) → Q .none ⟨h', g, d, t, os⟩) :
    wpAny (model prog w) A (call (.ref u) rest) Q E ⟨h, g, d, t, os⟩ := by
  refine wpAny_call (codeAny_of_tree ?_)
  show wpAny _ A.in1 (callAny (.ref u) ⟨rest, []⟩) _ _ _
  simp only [callAny]
  refine wpAny_bind (wpAny_load hu ?_)
  simp only [kxs_mw, show (Value.type "method-wrapper" == Value.type "method" || Value.type "method-wrapper" == Value.type "builtin_function_or_method" || Value.type "method-wrapper" == Value.type "method-wrapper") = true by decide, if_true]
  refine KFB.if_so (by decide) ?_
  refine wpAny_bind (check_bound_init F.excBase_ValueError.toExcCallFacts hC he rfl ?_)
  refine wpAny_bind (wpAny_pure (wpAny_pure ?_))
  refine ⟨plainId_quiet F.excBase_ValueError.init.plain _, codeAny_builtin F.excBase_ValueError.initEntry ?_⟩
  exact exc_init_tree (cls := .ref C) (t0 := t0) (dv := none) (c2 := .none) (c3 := .none) (b4 := .bool false) he hrest fun h' k e' _ => hq h' _ k e'
theorem he_of {env : Env} {o : Expr} {nm : Str} {c e d : Pos} {fl : Str} (hl : (c.endLine == e.line) = true) : eval (.Call (.Attribute o nm c) [.Name fl d] [] e) env = (do
      let ov ← attributeBase o nm env (eval o env)
      standAt c.atName
      let (f, first) ← holding [ov] (getMethod ov nm (do return (← importBound o env).getD true))
      callWith e f first (backTo e (starEach [.Name fl d] env)) []) := by
  rw [arm_eval_Call]
  have hf : methodCallForm ([Expr.Name fl d].length + ([] : List Keyword).length) (backTo e (starEach [.Name fl d] env)) (backToKw e (keywordEach [] env)) = true := by rfl
  have hm : methodCallPos true o env c e = pure e := by
    unfold methodCallPos
    rw [hl]
    rfl
  congr 1
  funext ov
  congr 1
  funext _
  unfold methodCall
  rw [hf, hm]
  rfl
theorem bx_init (T : ExTxt prog K mg nm fl C fI) {x t0 : Addr} {v : Value} (X : K.In s.heap) (G : Gnd K s.heap mg) (hlim : s.heap.NoLimit) (hx : s.heap.get? x = some (excO C t0)) (hnx : K.lookup x = none) (hroom : A.depth < recursionLimit)
    (hq : ∀ h' tk dx t1, InitEnd s.heap h' x C dx t1 fl v → R (.ok (.ret .none)) { s with heap := h', toks := tk }) :
    codeAny (model prog w) A (.call (.ref fI) ⟨[.ref x, v], []⟩) R s := by
  obtain ⟨oc, ccl, ccc, ct, doc, pm, od, cdd, ccd, an, osl, ccs, ccv, vs, file, tf, qual, p1, p2, a, b, c, d, e, f, g, h, i, j, cda, cc, ho, hcd, hcode, hvs, hfile, hcell, hl⟩ := T.fn
  obtain ⟨nm', q, N, bs, bm, sn, sub, ab, col, dd, k0, k1, k2, k3, k5, hC, hbm⟩ := T.cls
  have hcl : clsIn K C = some { name := nm', bases := bs, mro := .ref C :: bm, ns := N, qualname := q, hasDict := true, slotNames := sn, subclasses := sub, abstract := ab, collection := col, hasDel := false } := by unfold clsIn; rw [hC] <;> rfl
  have fo := T.fo
  have lself : (iS fl).names.lookup ("self" : Str) = some .local := by rfl
  have lfl : (iS fl).names.lookup fl = some .local := by
    have q1 : (fl == ("self" : Str)) = false := by simpa using fo.n1
    simp [iS, List.lookup, q1]
  have lcl : (iS fl).names.lookup ("__class__" : Str) = some .free := by
    have q1 : (("__class__" : Str) == fl) = false := by simpa using Ne.symm fo.n2
    have q2 : (("__class__" : Str) == PySem.Str.ofString "self") = false := by decide +kernel
    simp [iS, List.lookup, q1, q2]
  have lsu : (iS fl).names.lookup ("super" : Str) = some .globalImplicit := by
    have q1 : (("super" : Str) == fl) = false := by simpa using Ne.symm fo.n3
    have q2 : (("super" : Str) == PySem.Str.ofString "self") = false := by decide +kernel
    have q3 : (("super" : Str) == PySem.Str.ofString "__class__") = false := by decide +kernel
    simp [iS, List.lookup, q1, q2, q3]
  refine ks_codeAny_call_defAt (binds := [("self", .ref x), (fl, v)]) hroom (X _ _ ho) rfl hlim (codeRec_of X hcd) rfl (BindsTo.of_eq ?_) ?_ ?_ (fun h₁ hns k => ?_) rfl rfl rfl
  · exact fo.bd _ _ _ _ _ _ _ _ _ _ _ _
  · intro y hy
    simp only [iS, List.mem_cons, List.not_mem_nil, or_false] at hy
    rcases hy with h | h | h | h <;> subst h <;> exact fun q => nomatch q
  · intro y hy
    simp only [List.mem_cons, List.not_mem_nil, or_false] at hy
    rcases hy with h | h <;> subst h
    · exact lself
    · exact lfl
  · have X₁ : K.In h₁ := X.keeps k
    have G₁ := G.keeps k
    have hx₁ := k _ _ hx
    have xC : x ≠ C := fun z => by rw [z, hC] at hnx; cases hnx
    refine ks_wpAt_execs_cons (ks_wpAt_Expr_any (ks_wpAt_MethodCall ?_ (he_of hl)) rfl rfl)
    refine ks_wpAt_super_base lsu lcl (by decide) rfl (X₁ _ _ ho) rfl rfl rfl (X₁ _ _ hcode) rfl hvs hfile T.top ?_
    obtain ⟨mb, hb1, hb2⟩ := G₁.b
    refine ks_loadName_global rfl lsu (loadGlobal_builtin G₁.g (mg_none_of X₁ G₁.g T.sup) hb1 hb2 ⟨rfl, ?_⟩)
    refine wpAny_loadName_free rfl lcl rfl ⟨_, X₁ _ _ hcell, rfl⟩ ?_
    have hself : (fun y => [(("self" : Str), Value.ref x), (fl, v)].reverse.lookup y) ("self" : Str) = some (.ref x) := by
      have q1 : (("self" : Str) == fl) = false := by simpa using Ne.symm fo.n1
      simp [List.lookup, q1]
    have hfl : (fun y => [(("self" : Str), Value.ref x), (fl, v)].reverse.lookup y) fl = some v := by
      simp [List.lookup]
    refine wpAny_loadName_local rfl lself hns hself ?_
    refine ks_wpAny_isType_cls (X₁ _ _ hC) rfl ⟨rfl, ?_⟩
    refine ks_wpAny_call_super (X₁ _ _ hC) rfl hx₁ rfl (fun c e => nomatch e) (looks_mroIn X₁ T.sCC) (fun h₂ so k₂ => ?_)
    have X₂ : K.In h₂ := X₁.keeps k₂
    have hx₂ := k₂ _ _ hx₁
    have hns₂ := hns.keeps k₂
    have I₂ : InstAt h₂ x (excO C t0) C none := ⟨hx₂, rfl, rfl, trivial⟩
    have hI : ∀ M : Model, Looks (model prog w) h₂ (isInstance (.ref x) (.type "ValueError")) true := fun _ => I₂.type.andThen (looks_subIn X₂ T.sVE)
    have hal : alongIn K "__init__" (((.ref C :: bm).dropWhile (· != .ref C)).drop 1) = some (some (.builtin "ValueError.__init__")) := by
      have e := T.sup2
      unfold ks_superIn at e
      rw [hcl] at e
      exact e
    refine kxs_getMethod kxs_ValueError so (looks_opaque X₂ T.any) (l₀ := .ref C :: bm) (fun A Q E s k q => wpAny_bind ((looks_clsIn X₂ hcl) A _ E s k (wpAny_pure q))) rfl X₂ hal (hI (model prog w)) xC (by decide) ?_
    -- the wrapper is called with the value
    have kp : ∀ b o, h₂.get? b = some o → (h₂.push (kxs_mw "ValueError.__init__" x)).get? b = some o := fun b o e => Heap.get?_push_of_some _ e
    have hu : (h₂.push (kxs_mw "ValueError.__init__" x)).get? h₂.objs.size = some (kxs_mw "ValueError.__init__" x) := Heap.get?_push_size _ rfl
    refine kxs_callWith (i := "ValueError.__init__") (x := x) rfl (evalArgs_plain ?_)
    show wpAny _ _ (spliced ((false, eval (.Name fl d) _) :: backTo e (starEach [] _))) _ _ _
    refine Calls.spliced_cons (ldC (hns₂.keeps kp) hfl ?_ rfl lfl fo.n4)
    refine Calls.spliced_nil ⟨hu, ?_⟩
    refine call_mw (kp _ _ (X₂ _ _ hC)) (kp _ _ hx₂) hu (one_size v) (fun h₃ t1 k₃ hx₃ => ?_)
    -- self.f = f
    have xL : x ≠ s.heap.objs.size := Nat.ne_of_lt (Heap.lt_size hx)
    have X₃ : K.In h₃ := fun a o ea => k₃ a o (fun z => by rw [z, hnx] at ea; cases ea) (kp _ _ (X₂ _ _ ea))
    have hns₃ : h₃.Ns s.heap.objs.size (fun y => [(("self" : Str), Value.ref x), (fl, v)].reverse.lookup y) := by
      obtain ⟨oL, es, ep, hL, r⟩ := hns₂
      exact ⟨oL, es, ep, k₃ _ _ (Ne.symm xL) (kp _ _ hL), r⟩
    refine wpAt_of_wpAny ?_
    show wpAny _ _ (execs _ _) _ _ _
    refine wpAny_execs_cons (plainObj_wpAny_Assign_Attribute ?_)
    refine ldC hns₃ hfl (ldC hns₃ hself ?_ rfl lself (by decide)) rfl lfl fo.n4
    refine set_plain X₃ (ox := excO C t1) (od := none) ⟨hx₃, rfl, rfl, trivial⟩ T.sa ?_
    refine exc_osa X₃ hx₃ hcl (show refsVE (.ref C :: bm) = true from hbm) rfl T.noN (fun h₄ tk₄ dx k₄ dn dne hx₄ hn₄ => ?_)
    show wpAny _ _ (execs _ _) _ _ _
    have z : ∀ b o, b ≠ x → s.heap.get? b = some o → h₃.get? b = some o := fun b o hb e => k₃ b o hb (kp _ _ (k₂ _ _ (k b o e)))
    have dbig : s.heap.objs.size ≤ dx := by
      have y := hns₃.lt
      exact Nat.le_of_lt (Nat.lt_of_lt_of_le y dn)
    exact wpAny_execs_nil (hq h₄ tk₄ dx t1 ⟨fun b o hb e => k₄ b o hb (z b o hb e), hx₄, dbig, dne, hn₄⟩)
theorem bx_made (T : ExTxt prog K mg nm fl C fI) {v : Value} (X : K.In s.heap) (G : Gnd K s.heap mg) (hlim : s.heap.NoLimit) (hroom : A.depth + 1 < recursionLimit)
    (hq : ∀ h' tk e d, OwnMade s.heap h' e C d fl v → R (.ok (.ret (.ref e))) { s with heap := h', toks := tk }) :
    codeAny (model prog w) A (.call (.ref C) ⟨[v], []⟩) R s := by
  obtain ⟨nm', q, N, bs, bm, sn, sub, ab, col, dd, k0, k1, k2, k3, k5, hC, hbm⟩ := T.cls
  obtain ⟨hp, g, dr, tk, os⟩ := s
  have k : ∀ b o, hp.get? b = some o → ((hp.push (kdv_tup [v])).push (excO C hp.objs.size)).get? b = some o := fun b o e => Heap.get?_push_of_some _ (Heap.get?_push_of_some _ e)
  have hget : ((hp.push (kdv_tup [v])).push (excO C hp.objs.size)).get? (hp.objs.size + 1) = some (excO C hp.objs.size) := by heap_get
  have hnx : K.lookup (hp.objs.size + 1) = none := by
    cases e : K.lookup (hp.objs.size + 1) with
    | none => rfl
    | some o =>
      have z : hp.get? (hp.objs.size + 1) = some o := X _ _ e
      exact absurd (Nat.lt_of_succ_lt (Heap.lt_size z)) (Nat.lt_irrefl _)
  refine call_own F.excBase_ValueError (fun X => refsVE_contains X bm hbm) (X _ _ hC) (looks_findIn X T.iC) (fun self => bind_fn X self T.tC) (one_size v) ?_
  refine bx_init (s := ⟨(hp.push (kdv_tup [v])).push (excO C hp.objs.size), g, dr, tk, os⟩) T (X.keeps k) (G.keeps k) (hlim.keeps k) hget hnx ?_ fun h' tk' dx t1 ⟨k', hx, dn, dne, hns⟩ => ?_
  · show A.depth + 1 < recursionLimit
    exact hroom
  · have old : ∀ b o, hp.get? b = some o → h'.get? b = some o := fun b o e => k' b o (Nat.ne_of_lt (Nat.lt_succ_of_lt (Heap.lt_size e))) (k b o e)
    have z : hp.objs.size + 1 + 1 ≤ dx := by
      first
        | (simpa only [Heap.size_push] using dn)
        | exact dn
        | (have q := dn; rw [Heap.size_push, Heap.size_push] at q; exact q)
    exact ⟨rfl, hq h' tk' (hp.objs.size + 1) dx ⟨old, Nat.le_succ _, ⟨_, _, hx, rfl, rfl, rfl, rfl⟩, Nat.le_trans (Nat.le_trans (Nat.le_succ _) (Nat.le_succ _)) z, dne, hns⟩⟩
end
end BX
namespace BX
open PySem PySem.Spec PyProof.Rows L2
theorem relO_one {fl : Str} {v : V} {v' : Value} (r : RelV v v') (f : Str) : RelO (List.lookup f [(fl, v)]) (if f = fl then some v' else none) := by
  by_cases hw : f = fl
  · subst hw
    rw [if_pos rfl]
    have q : List.lookup f [(f, v)] = some v := by simp [List.lookup]
    rw [q]
    exact r
  · rw [if_neg hw]
    have qw : (f == fl) = false := by simpa using hw
    have q2 : List.lookup f [(fl, v)] = none := by simp [List.lookup, qw]
    rw [q2]
    trivial
section
variable {X : Cx} {C fI : Addr} {nm fl : Str}
def tMkX (C : Addr) (fl : Str) (ta : TA) : L2.St → Hp → XK → Prop := fun σ H Q => ta σ H fun vs H1 => ∃ v, vs = [v] ∧ ∀ d, H1 d = none → Q (.ref C) (some d) (upd H1 d (.xd [(fl, v)]))
theorem pmk_bx {a : Expr} {ta : TA} {p pos : Pos} {k : Nat} (T : ExTxt X.prog X.K X.mg nm fl C fI) (hr : Room k X.A) (ha : PA X [a] ta) (hg : Gl X nm) (hd : (nm == ("__debug__" : Str)) = false)
    (he : starEach (a :: []) X.env = (false, eval a X.env) :: starEach [] X.env := by rfl) (hpl : (backTo pos (starEach [] X.env)).any (·.1) = false := by rfl) :
    PMk X (.Call (.Name nm p) [a] [] pos) (tMkX C fl ta) := by
  intro pins s σ H Q I h
  refine wpAny_Call_Name_kw (ld_glob I hg T.gC ?_ hd)
  refine PySem.W.callWith_K (h₀ := X.base) I.ok.mod.kin T.kC (thn (ha.run pos pins s σ H _ I h) fun us s1 hh => ?_) he hpl
  obtain ⟨vs, H1, I1, r1, v, ev, q1⟩ := hh
  subst ev
  refine ⟨I1.kIn, ?_⟩
  cases r1 with
  | cons rv rn =>
    rename_i v' us'
    cases rn
    show wpAny _ _ (call (.ref C) [v']) _ _ _
    have hlim := I1.nolimit
    have G : Gnd X.K s1.heap X.mg := by
      obtain ⟨mb, h1, h2⟩ := I1.mod.blt
      exact ⟨I1.mod.glob.keeps I1.bk, mb, h1.keeps I1.bk, (h2 _ (by decide +kernel)).trans (by decide +kernel)⟩
    obtain ⟨hp, g, dr, tk, os⟩ := s1
    refine wpAny_call (bx_made T I1.kIn G hlim (by have := hr.dp; omega) fun h' tk' e d M => ?_)
    show MkP X pins σ Q (.ref e) ⟨h', g, dr, tk', os⟩
    obtain ⟨oe, fv, hoe, hc, hd, hdat, h1⟩ := M.obj
    have hns := M.ns
    obtain ⟨G', g1, g2⟩ := restrict h' fun b => decide (b ≠ e)
    have gk : ∀ b, b ≠ e → G'.get? b = h'.get? b := fun b hb => g1 b (decide_eq_true hb)
    have ge : G'.get? e = none := g2 e (by simp)
    have old : ∀ b o, hp.get? b = some o → G'.get? b = some o := fun b o q => (gk b (Nat.ne_of_lt (Nat.lt_of_lt_of_le (Heap.lt_size q) M.new))).trans (M.keep b o q)
    have ob : ObjOk X.prog X.w (upd H1 d (.xd [(fl, v)])) G' d (.xd [(fl, v)]) :=
      ⟨_, hns.at (fun o q => (gk d M.dne).trans q), fun f => relO_one rv f⟩
    have J : Inv X pins σ (upd H1 d (.xd [(fl, v)])) ⟨G', g, dr, tk', os⟩ := I1.laid (t' := tk') old M.dbig ob
    refine ⟨e, oe, fv, ⟨G', g, dr, tk', os⟩, _, .ref C, some d, rfl, J, fun b o q => ?_, ge, hoe, ⟨hc, hd⟩, hdat, h1, ?_, rfl, I1.bare, raises_own T.xf.exC T.tyC, q1 d (I1.hok.fresh M.dbig)⟩
    · by_cases hb : b = e
      · have q' : G'.get? b = some o := q
        rw [hb, ge] at q'
        cases q'
      · exact (gk b hb).symm.trans q
    · rw [upd_ne (Ne.symm M.dne)]
      exact I1.hok.fresh M.new
def tRaiseX (C : Addr) (fl : Str) (W : WX) (ta : TA) : TS := fun _ σ H => tMkX C fl ta σ H fun cls d H' => W cls d σ H'
theorem ps_raiseX {a : Expr} {ta : TA} {W : WX} {p pos pos2 : Pos} {k : Nat} (hc : X.calm = true) (T : ExTxt X.prog X.K X.mg nm fl C fI) (hr : Room k X.A) (tk : Takes X W) (ha : PA X [a] ta) (hg : Gl X nm := by rfl) (hd : (nm == ("__debug__" : Str)) = false := by decide)
    (he : starEach (a :: []) X.env = (false, eval a X.env) :: starEach [] X.env := by rfl) (hpl : (backTo pos (starEach [] X.env)).any (·.1) = false := by rfl) :
    PS X (.Raise (some (.Call (.Name nm p) [a] [] pos)) none pos2) (tRaiseX C fl W ta) := ps_raise hc tk (pmk_bx T hr ha hg hd he hpl)
end
end BX
namespace BX
open PySem PySem.Spec PyProof.Rows L2 LamX
theorem takes_len {X : Cx} {W : WX} (t : Takes X W) : Takes X (fun c d σ H => σ.length = X.N.length → W c d σ H) := fun u s' ⟨a, B, sI, pins, σ, H, cls, d, e, I, nb, up, sky, na, os, ag, w⟩ =>
  t u s' ⟨a, B, sI, pins, σ, H, cls, d, e, I, nb, up, sky, na, os, ag, w I.len⟩
/-- what «try: a() / except C as e: return e.fl / return ret» makes of a's reading -/
def TRef (K : PySem.W.Frag) (C : Addr) (fl ret : Str) : (XK → Hp → VK → Prop) → Hp → VK → Prop := fun tl H Q =>
  tl (fun cls d H' => cls = .ref C ∧ ∃ (dd : Addr) (fs : List (Str × V)) (v : V), d = some dd ∧ H' dd = some (.xd fs) ∧ fs.lookup fl = some v ∧ Q v H') H (fun _ H' => Q (.str ret) H')
theorem ref_gives {X : Cx} {x q ret : Str} {nm fl : Str} {C fI g : Addr} {sg : Scope} {cdg : Value} {j : Nat} {p1 p2 p3 p4 p5 p6 p7 p8 p9 p10 p11 : Pos} (T : ExTxt X.prog X.K X.mg nm fl C fI) (te : PySem.W.exmOne X.K (.ref C) (.ref C) = some true)
    (hge : sg.names.lookup nm = some .globalImplicit) (hde : (nm == ("__debug__" : Str)) = false) (hle : sg.names.lookup ("e" : Str) = some .local) :
    GivesTo X ["call", "e"] x sg g cdg [.Try [.Expr (.Call (.Name "call" p1) [] [] p2) p3] [.ExceptHandler (some (.Name nm p4)) (some "e") [.Return (some (.Attribute (.Name "e" p5) fl p6)) p7] p8] [] [] p9, .Return (some (.Constant (.str ret) j p10)) p11] "call" q (TRef X.K C fl ret) := by
  intro f c' s H Q tl act hc h
  have hgl : Gl (cxOf C8.CX0 X.prog X.w X.K X.mg X.base ["call", "e"] x sg g cdg X.A X.stack s H C8.E0).nox nm := hge
  refine ⟨_, pss_cons (ps_try_as (X := (cxOf C8.CX0 X.prog X.w X.K X.mg X.base ["call", "e"] x sg g cdg X.A X.stack s H C8.E0).nox) (i := 1) (c := .ref C)
      (tb := fun W D σ H => ∃ Ech : XK, (∀ cls d σ' H', Ech cls d H' → σ'.length = 2 → W cls d σ' H') ∧ σ[0]? = some (some (.ref f)) ∧ H c' = some (CodeO c' q) ∧ tl Ech H (fun _ H' => D.nx σ H'))
      (ts := fun a cls d => tRet (tXf a cls d C fl (tVar 1)))
      rfl rfl (show (["call", "e"] : List Str).Nodup by decide +kernel) rfl hle ⟨hgl, hde, .inl T.gC⟩ L2.takes0 (fun W pn xe tk _ => ?_) (fun a oe cls d pn hz hf => pss_one (ps_ret (pe_xf T.xf T.noN hz hf (pv 1 rfl (.inl hle)))))) (pss_one (ps_ret pe_str)), ?_⟩
  · refine ⟨fun pins s' σ H' D I h' => ?_⟩
    obtain ⟨Ech, hW, h1, h2, h3⟩ := h'
    have hp := act _ pn xe Ech p1 p2 (takes_len tk) hW
    exact (pss_one (ps_expr (pos := p3) hp)).run pins s' σ H' D I ⟨h1, h2, h3⟩
  · refine ⟨fun cls d H' => cls = .ref C ∧ ∃ (dd : Addr) (fs : List (Str × V)) (v : V), d = some dd ∧ H' dd = some (.xd fs) ∧ fs.lookup fl = some v ∧ Q v H', ?_, rfl, hc, h⟩
    rintro cls d σ' H' ⟨rfl, dd, fs, v, rfl, h1, h2, h3⟩ hlen
    refine ⟨true, te, fun _ a ha => ?_, fun z => Bool.noConfusion z⟩
    obtain ⟨x0, x1, rfl⟩ : ∃ x0 x1, σ' = [x0, x1] := by
      match σ', hlen with
      | [a, b], _ => exact ⟨a, b, rfl⟩
    exact ⟨.ref a, rfl, rfl, rfl, dd, fs, v, rfl, h1, h2, h3⟩
end BX

/-! the data layer: what expressions and statements do, told over plain data -/
namespace DL
open PySem PySem.Spec PyProof.Rows L2
abbrev D := PyData
def Ex (H H' : Hp) : Prop := ∀ a o, H a = some o → H' a = some o
theorem Ex.refl (H : Hp) : Ex H H := fun _ _ h => h
theorem Ex.trans {H H1 H2 : Hp} (a : Ex H H1) (b : Ex H1 H2) : Ex H H2 := fun x o h => b x o (a x o h)
theorem Ex.un {H H' : Hp} (e : Ex H H') {p : Addr} (h : H' p = none) : H p = none := by
  cases q : H p with
  | none => rfl
  | some o => rw [e p o q] at h; cases h
theorem Ex.new {H : Hp} {p : Addr} {o : HO} (h : H p = none) : Ex H (upd H p o) := fun a u e => by
  rw [upd_ne (ne_of_none e h)]; exact e
theorem Ex.rd {H H' : Hp} (e : Ex H H') {a : Addr} {u : HO} (h : Rd H a u) : Rd H' a u := by
  rcases h with h | ⟨o, h⟩
  · exact .inl (e a _ h)
  · exact .inr ⟨o, e a _ h⟩
theorem Ex.sqT {K : PySem.W.Frag} {H H' : Hp} {a : Addr} {xs : List V} (e : Ex H H') (h : SqT K H a xs) : SqT K H' a xs := by
  rcases h with h | h
  · exact .inl (e.rd h)
  · exact .inr h
theorem Ex.sqL {K : PySem.W.Frag} {H H' : Hp} {a : Addr} {xs : List V} (e : Ex H H') (h : SqL K H a xs) : SqL K H' a xs := by
  rcases h with h | h
  · exact .inl (e.rd h)
  · exact .inr h
def keyD : Key → D
  | .inl i => .int i
  | .inr x => .str x
/-- the script: a list that may only be read, told by a datum that nothing else bears -/
def scrD (ns : List Int) : D := .dict [(.none, .list (ns.map PyData.int))]
/-! ### what a value is, in the frozen part F -/
mutual
inductive At (K : PySem.W.Frag) (F : Hp) : V → D → Prop
  | non : At K F .non .none
  | bl (b : Bool) : At K F (.bl b) (.bool b)
  | int (i : Int) : At K F (.int i) (.int i)
  | str (x : Str) : At K F (.str x) (.str x)
  | lst {a : Addr} {vs : List V} {ds : List D} : F a = some (.lst vs) → AtAll K F vs ds → At K F (.ref a) (.list ds)
  | tup {a : Addr} {vs : List V} {ds : List D} : SqT K F a vs → AtAll K F vs ds → At K F (.ref a) (.tuple ds)
  | dic {a : Addr} {kvs : List (Key × V)} {ds : List (D × D)} : F a = some (.dK kvs) → AtKV K F kvs ds → At K F (.ref a) (.dict ds)
  | scr {a : Addr} {ns : List Int} : SqL K F a (ns.map V.int) → At K F (.ref a) (scrD ns)
inductive AtAll (K : PySem.W.Frag) (F : Hp) : List V → List D → Prop
  | nil : AtAll K F [] []
  | cons {v : V} {vs : List V} {d : D} {ds : List D} : At K F v d → AtAll K F vs ds → AtAll K F (v :: vs) (d :: ds)
inductive AtKV (K : PySem.W.Frag) (F : Hp) : List (Key × V) → List (D × D) → Prop
  | nil : AtKV K F [] []
  | cons {k : Key} {v : V} {kvs : List (Key × V)} {d : D} {ds : List (D × D)} : At K F v d → AtKV K F kvs ds → AtKV K F ((k, v) :: kvs) ((keyD k, d) :: ds)
end
section
variable {K : PySem.W.Frag} {F F' : Hp}
mutual
theorem At.ex (e : Ex F F') : ∀ {v : V} {d : D}, At K F v d → At K F' v d
  | _, _, .non => .non
  | _, _, .bl b => .bl b
  | _, _, .int i => .int i
  | _, _, .str x => .str x
  | _, _, .lst h t => .lst (e _ _ h) (AtAll.ex e t)
  | _, _, .tup h t => .tup (e.sqT h) (AtAll.ex e t)
  | _, _, .dic h t => .dic (e _ _ h) (AtKV.ex e t)
  | _, _, .scr h => .scr (e.sqL h)
theorem AtAll.ex (e : Ex F F') : ∀ {vs : List V} {ds : List D}, AtAll K F vs ds → AtAll K F' vs ds
  | _, _, .nil => .nil
  | _, _, .cons h t => .cons (At.ex e h) (AtAll.ex e t)
theorem AtKV.ex (e : Ex F F') : ∀ {vs : List (Key × V)} {ds : List (D × D)}, AtKV K F vs ds → AtKV K F' vs ds
  | _, _, .nil => .nil
  | _, _, .cons h t => .cons (At.ex e h) (AtKV.ex e t)
end
theorem AtAll.length : ∀ {vs : List V} {ds : List D}, AtAll K F vs ds → vs.length = ds.length
  | _, _, .nil => rfl
  | _, _, .cons _ t => by simp [AtAll.length t]
theorem AtAll.get : ∀ {vs : List V} {ds : List D} {i : Nat} {d : D}, AtAll K F vs ds → ds[i]? = some d → ∃ v, vs[i]? = some v ∧ At K F v d
  | _, _, _, _, .nil, e => by simp at e
  | _, _, 0, _, .cons h _, e => by simp at e; subst e; exact ⟨_, by simp, h⟩
  | _, _, i + 1, d, .cons _ t, e => by
    obtain ⟨v, h1, h2⟩ := AtAll.get (i := i) (d := d) t (by simpa using e)
    exact ⟨v, by simpa using h1, h2⟩
theorem AtAll.getV : ∀ {vs : List V} {ds : List D} {i : Nat} {v : V}, AtAll K F vs ds → vs[i]? = some v → ∃ d, ds[i]? = some d ∧ At K F v d
  | _, _, _, _, .nil, e => by simp at e
  | _, _, 0, _, .cons h _, e => by simp at e; subst e; exact ⟨_, by simp, h⟩
  | _, _, i + 1, d, .cons _ t, e => by
    obtain ⟨v, h1, h2⟩ := AtAll.getV (i := i) (v := d) t (by simpa using e)
    exact ⟨v, by simpa using h1, h2⟩
theorem AtAll.append : ∀ {vs ws : List V} {ds es : List D}, AtAll K F vs ds → AtAll K F ws es → AtAll K F (vs ++ ws) (ds ++ es)
  | _, _, _, _, .nil, s => s
  | _, _, _, _, .cons h t, s => .cons h (AtAll.append t s)
theorem AtAll.take : ∀ {vs : List V} {ds : List D} (n : Nat), AtAll K F vs ds → AtAll K F (vs.take n) (ds.take n)
  | _, _, 0, _ => .nil
  | _, _, _ + 1, .nil => .nil
  | _, _, n + 1, .cons h t => .cons h (AtAll.take n t)
theorem AtAll.drop : ∀ {vs : List V} {ds : List D} (n : Nat), AtAll K F vs ds → AtAll K F (vs.drop n) (ds.drop n)
  | _, _, 0, r => r
  | _, _, _ + 1, .nil => .nil
  | _, _, n + 1, .cons _ t => AtAll.drop n t
theorem AtAll.set {v : V} {d : D} (h : At K F v d) : ∀ {vs : List V} {ds : List D} (i : Nat), AtAll K F vs ds → AtAll K F (vs.set i v) (ds.set i d)
  | _, _, _, .nil => .nil
  | _, _, 0, .cons _ t => .cons h t
  | _, _, i + 1, .cons q t => .cons q (AtAll.set h i t)
theorem AtAll.snoc {vs : List V} {ds : List D} {v : V} {d : D} (t : AtAll K F vs ds) (h : At K F v d) : AtAll K F (vs ++ [v]) (ds ++ [d]) := t.append (.cons h .nil)
/-- a list of ints -/
theorem AtAll.ints : ∀ {vs : List V} {ns : List Int}, AtAll K F vs (ns.map PyData.int) → vs = ns.map V.int
  | [], [], .nil => rfl
  | _, n :: ns, .cons h t => by cases h; rw [AtAll.ints t]; rfl
theorem AtAll.of_ints : ∀ {ns : List Int}, AtAll K F (ns.map V.int) (ns.map PyData.int)
  | [] => .nil
  | n :: ns => .cons (.int n) AtAll.of_ints
end
/-! ### data without dicts, for == -/
mutual
def flat0 : D → Bool
  | .dict _ => false
  | .list xs => flats0 xs
  | .tuple xs => flats0 xs
  | _ => true
def flats0 : List D → Bool
  | [] => true
  | x :: xs => flat0 x && flats0 xs
end
section
variable {K : PySem.W.Frag} {F H : Hp}
mutual
theorem At.dp (e : Ex F H) : ∀ {v : V} {d : D}, At K F v d → flat0 d = true → Dp K H v d
  | _, _, .non, _ => .non
  | _, _, .bl b, _ => .bl b
  | _, _, .int i, _ => .int i
  | _, _, .str x, _ => .str x
  | _, _, .lst h t, q => .lst (.inl (.inl (e _ _ h))) (AtAll.dp e t (by unfold flat0 at q; exact q))
  | _, _, .tup h t, q => .tup (e.sqT h) (AtAll.dp e t (by unfold flat0 at q; exact q))
  | _, _, .dic h t, q => by unfold flat0 at q; cases q
  | _, _, .scr h, q => by unfold scrD flat0 at q; cases q
theorem AtAll.dp (e : Ex F H) : ∀ {vs : List V} {ds : List D}, AtAll K F vs ds → flats0 ds = true → DpAll K H vs ds
  | _, _, .nil, _ => .nil
  | _, _, .cons h t, q => by
    unfold flats0 at q
    rw [Bool.and_eq_true] at q
    exact .cons (At.dp e h q.1) (AtAll.dp e t q.2)
end
end
/-! ### states -/
/-- code objects and the like stay for ever -/
def ExtKeep (H H' : Hp) : Prop := ∀ b φ, H b = some (.ext φ) → H' b = some (.ext φ)
theorem ExtKeep.of {H H' : Hp} (e : Ex H H') : ExtKeep H H' := fun b φ h => e b _ h
/-- a thing that is owned: it stands at P in H, and leans on the frozen part -/
structure Rs where
  ok : Hp → Hp → (Addr → Prop) → Option (Option V) → Prop
  mono : ∀ {F F' H H' : Hp} {P : Addr → Prop} {sv : Option (Option V)}, ok F H P sv → Ex F F' → (∀ b, P b → H' b = H b) → ExtKeep H H' → ok F' H' P sv
inductive Sl where
  | unk
  | dat (d : D)
  | vv (v : V)
  | res (r : Rs)
structure S where
  s : List Sl
  g : List (Addr × Str) := []
def SlOk (K : PySem.W.Frag) (F H : Hp) (P : Addr → Prop) (sv : Option (Option V)) : Sl → Prop
  | .unk => True
  | .dat d => ∃ v, sv = some (some v) ∧ At K F v d
  | .vv v => sv = some (some v)
  | .res r => r.ok F H P sv
theorem SlOk.mono {K : PySem.W.Frag} {F F' H H' : Hp} {P : Addr → Prop} {sv : Option (Option V)} {s : Sl} (h : SlOk K F H P sv s) (e : Ex F F') (k : ∀ b, P b → H' b = H b) (x : ExtKeep H H') : SlOk K F' H' P sv s := by
  cases s with
  | unk => trivial
  | dat d => obtain ⟨v, h1, h2⟩ := h; exact ⟨v, h1, h2.ex e⟩
  | vv v => exact h
  | res r => exact r.mono h e k x
abbrev Ix := Nat ⊕ Nat
abbrev Fp := Ix → Addr → Prop
/-- no table of code objects -/
def NoTbl (o : HO) : Prop := ∀ ps, o ≠ .tbl ps
/-- something stands there, no table -/
def Live (H : Hp) (b : Addr) : Prop := ∃ o, H b = some o ∧ NoTbl o
theorem Live.ne {H : Hp} {b p : Addr} (h : Live H b) (hp : H p = none) : b ≠ p := fun z => by
  obtain ⟨o, q, _⟩ := h; rw [z, hp] at q; cases q
theorem Live.ex {H H' : Hp} {b : Addr} (h : Live H b) (e : Ex H H') : Live H' b := by
  obtain ⟨o, q, n⟩ := h; exact ⟨o, e b o q, n⟩
structure EnvW (K : PySem.W.Frag) (σ : L2.St) (s : S) (H F : Hp) (fp : Fp) : Prop where
  ex : Ex F H
  len : σ.length = s.s.length
  sl : ∀ (i : Nat) (x : Sl), s.s[i]? = some x → SlOk K F H (fp (.inl i)) σ[i]? x
  tb : LamX.Tabs s.g H
  dj : ∀ (i j : Ix) (b : Addr), i ≠ j → fp i b → ¬ fp j b
  nf : ∀ i b, fp i b → F b = none
  th : ∀ i b, fp i b → Live H b
  nt : ∀ b o, F b = some o → NoTbl o
structure Step (H F : Hp) (fp : Fp) (H' F' : Hp) (fp' : Fp) : Prop where
  ex : Ex F F'
  new : ∀ b, F b = none → Live H b → (∀ i, ¬ fp i b) → F' b = none
  keep : ∀ b o, H b = some o → NoTbl o → (∀ i, ¬ fp i b) → H' b = some o
  fpn : ∀ i b, fp' i b → (∃ j, fp j b) ∨ ¬ Live H b
  ext : ExtKeep H H'
theorem Step.live {H F H' F' : Hp} {fp fp' : Fp} (st : Step H F fp H' F' fp') {b : Addr} (h : Live H b) (n : ∀ i, ¬ fp i b) : Live H' b := by
  obtain ⟨o, q, x⟩ := h; exact ⟨o, st.keep b o q x n, x⟩
theorem Step.refl (H F : Hp) (fp : Fp) : Step H F fp H F fp := ⟨Ex.refl F, fun _ h _ _ => h, fun _ _ h _ _ => h, fun i b h => .inl ⟨i, h⟩, fun _ _ h => h⟩
theorem Step.trans {H F H1 F1 H2 F2 : Hp} {fp fp1 fp2 : Fp} (a : Step H F fp H1 F1 fp1) (b' : Step H1 F1 fp1 H2 F2 fp2) : Step H F fp H2 F2 fp2 where
  ex := a.ex.trans b'.ex
  new := fun c h1 h2 h3 => b'.new c (a.new c h1 h2 h3) (a.live h2 h3) fun i hi => by
    rcases a.fpn i c hi with ⟨j, hj⟩ | h
    · exact h3 j hj
    · exact h h2
  keep := fun c o h1 n h2 => b'.keep c o (a.keep c o h1 n h2) n fun i hi => by
    rcases a.fpn i c hi with ⟨j, hj⟩ | h
    · exact h2 j hj
    · exact h ⟨o, h1, n⟩
  fpn := fun i c h => by
    rcases b'.fpn i c h with ⟨j, hj⟩ | h
    · exact a.fpn j c hj
    · by_cases z : ∃ j, fp j c
      · exact .inl z
      · exact .inr fun l => h (a.live l fun i hi => z ⟨i, hi⟩)
  ext := fun b φ h => b'.ext b φ (a.ext b φ h)
/-- only new things have come -/
structure Grow (F H F' H' : Hp) : Prop where
  f : Ex F F'
  h : Ex H H'
  fh : Ex F' H'
  new : ∀ b, F b = none → (∃ o, H b = some o) → F' b = none
  nt : (∀ b o, F b = some o → NoTbl o) → ∀ b o, F' b = some o → NoTbl o
theorem Grow.refl {F H : Hp} (e : Ex F H) : Grow F H F H := ⟨Ex.refl F, Ex.refl H, e, fun _ h _ => h, fun h => h⟩
theorem Grow.trans {F H F1 H1 F2 H2 : Hp} (a : Grow F H F1 H1) (b : Grow F1 H1 F2 H2) : Grow F H F2 H2 :=
  ⟨a.f.trans b.f, a.h.trans b.h, b.fh, fun c h ⟨o, q⟩ => b.new c (a.new c h ⟨o, q⟩) ⟨o, a.h c o q⟩, fun h => b.nt (a.nt h)⟩
/-- a new frozen object -/
theorem Grow.laid {F H : Hp} {p : Addr} {o : HO} (e : Ex F H) (h : H p = none) (hn : NoTbl o := by intro ps z; cases z) : Grow F H (upd F p o) (upd H p o) where
  f := Ex.new (e.un h)
  h := Ex.new h
  fh := fun a u q => by
    by_cases z : a = p
    · subst z; rw [upd_same] at q ⊢; exact q
    · rw [upd_ne z] at q ⊢; exact e a u q
  new := fun b h1 ⟨u, h2⟩ => by rw [upd_ne (ne_of_none h2 h)]; exact h1
  nt := fun n b u q => by
    by_cases z : b = p
    · subst z; rw [upd_same] at q; cases q; exact hn
    · rw [upd_ne z] at q; exact n b u q
section
variable {K : PySem.W.Frag} {σ : L2.St} {s : S} {H F H' F' : Hp} {fp : Fp}
theorem Live.get {H H' : Hp} {b : Addr} (h : Live H b) (e : Ex H H') : H' b = H b := by
  obtain ⟨o, q, _⟩ := h; rw [q, e b o q]
theorem EnvW.grow (E : EnvW K σ s H F fp) (g : Grow F H F' H') : EnvW K σ s H' F' fp where
  ex := g.fh
  len := E.len
  sl := fun i x h => (E.sl i x h).mono g.f (fun b hb => (E.th _ b hb).get g.h) (ExtKeep.of g.h)
  tb := E.tb.ext g.h
  dj := E.dj
  nf := fun i b h => g.new b (E.nf i b h) (by obtain ⟨o, q, _⟩ := E.th i b h; exact ⟨o, q⟩)
  th := fun i b h => (E.th i b h).ex g.h
  nt := g.nt E.nt
theorem EnvW.growS (E : EnvW K σ s H F fp) (g : Grow F H F' H') : Step H F fp H' F' fp :=
  ⟨g.f, fun b h ⟨o, q, _⟩ _ => g.new b h ⟨o, q⟩, fun b o h _ _ => g.h b o h, fun i b h => .inl ⟨i, h⟩, ExtKeep.of g.h⟩
/-- a footprint changed at one place -/
def fpSet (fp : Fp) (i : Ix) (P : Addr → Prop) : Fp := fun j => if j = i then P else fp j
theorem fpSet_same {i : Ix} {P : Addr → Prop} : fpSet fp i P i = P := if_pos rfl
theorem fpSet_ne {i j : Ix} {P : Addr → Prop} (h : j ≠ i) : fpSet fp i P j = fp j := if_neg h
def S.set (s : S) (i : Nat) (x : Sl) : S := ⟨s.s.set i x, s.g⟩
abbrev noP : Addr → Prop := fun _ => False
/-- slot i gets v -/
theorem EnvW.set (E : EnvW K σ s H F fp) {i : Nat} {v : V} {x : Sl} (h : SlOk K F H noP (some (some v)) x) : EnvW K (σ.set i (some v)) (s.set i x) H F (fpSet fp (.inl i) noP) where
  ex := E.ex
  len := by simp [S.set, E.len]
  sl := fun j y hj => by
    by_cases z : j = i
    · subst z
      have hl : j < s.s.length := by
        have := (List.getElem?_eq_some_iff.mp hj).1
        simpa [S.set] using this
      have e1 : (s.s.set j x)[j]? = some x := List.getElem?_set_self hl
      rw [show (s.set j x).s = s.s.set j x from rfl, e1] at hj
      cases hj
      rw [fpSet_same, List.getElem?_set_self (by rw [E.len]; exact hl)]
      exact h
    · have e1 : (s.s.set i x)[j]? = s.s[j]? := List.getElem?_set_ne (Ne.symm z)
      rw [show (s.set i x).s = s.s.set i x from rfl, e1] at hj
      rw [fpSet_ne (by intro q; cases q; exact z rfl), List.getElem?_set_ne (Ne.symm z)]
      exact E.sl j y hj
  tb := E.tb
  dj := fun j k b hjk h1 h2 => by
    by_cases z : j = .inl i
    · subst z; rw [fpSet_same] at h1; exact h1
    · rw [fpSet_ne z] at h1
      by_cases y : k = .inl i
      · subst y; rw [fpSet_same] at h2; exact h2
      · rw [fpSet_ne y] at h2; exact E.dj j k b hjk h1 h2
  nf := fun j b h1 => by
    by_cases z : j = .inl i
    · subst z; rw [fpSet_same] at h1; exact h1.elim
    · rw [fpSet_ne z] at h1; exact E.nf j b h1
  th := fun j b h1 => by
    by_cases z : j = .inl i
    · subst z; rw [fpSet_same] at h1; exact h1.elim
    · rw [fpSet_ne z] at h1; exact E.th j b h1
  nt := E.nt
theorem Step.drop {i : Ix} : Step H F fp H F (fpSet fp i noP) := ⟨Ex.refl F, fun _ h _ _ => h, fun _ _ h _ _ => h, fun j b h => by
  by_cases z : j = i
  · subst z; rw [fpSet_same] at h; exact h.elim
  · rw [fpSet_ne z] at h; exact .inl ⟨j, h⟩, fun _ _ h => h⟩
end
end DL

namespace DL
open PySem PySem.Spec PyProof.Rows L2
/-! ### judgements -/
section
variable (K : PySem.W.Frag)
def Ev (te : TE) (s : S) (d : D) (s' : S) : Prop := ∀ σ H F fp, EnvW K σ s H F fp → ∀ Q : VK, (∀ v H' F' fp', EnvW K σ s' H' F' fp' → Step H F fp H' F' fp' → At K F' v d → Q v H') → te σ H Q
def EvT (tt : TT) (s : S) (b : Bool) (s' : S) : Prop := ∀ σ H F fp, EnvW K σ s H F fp → ∀ Q : Bool → Hp → Prop, (∀ H' F' fp', EnvW K σ s' H' F' fp' → Step H F fp H' F' fp' → Q b H') → tt σ H Q
def EvA (ta : TA) (s : S) (ds : List D) (s' : S) : Prop := ∀ σ H F fp, EnvW K σ s H F fp → ∀ Q : List V → Hp → Prop, (∀ vs H' F' fp', EnvW K σ s' H' F' fp' → Step H F fp H' F' fp' → AtAll K F' vs ds → Q vs H') → ta σ H Q
/-- P is a new thing's place -/
structure Own (H : Hp) (fp : Fp) (H' F' : Hp) (fp' : Fp) (P : Addr → Prop) : Prop where
  nf : ∀ b, P b → F' b = none
  dj : ∀ b i, P b → ¬ fp' i b
  th : ∀ b, P b → Live H' b
  new : ∀ b, P b → (∃ j, fp j b) ∨ ¬ Live H b
def EvO (te : TE) (s : S) (r : Rs) (s' : S) : Prop := ∀ σ H F fp, EnvW K σ s H F fp → ∀ Q : VK, (∀ v H' F' fp' P, EnvW K σ s' H' F' fp' → Step H F fp H' F' fp' → r.ok F' H' P (some (some v)) → Own H fp H' F' fp' P → Q v H') → te σ H Q
end
/-- a list of one's own, at ov's address where that is told -/
def lstR (K : PySem.W.Frag) (ov : Option V) (ds : List D) : Rs where
  ok := fun F H P sv => ∃ a vs, sv = some (some (.ref a)) ∧ (∀ v, ov = some v → v = .ref a) ∧ (∀ b, P b ↔ b = a) ∧ H a = some (.lst vs) ∧ AtAll K F vs ds
  mono := fun ⟨a, vs, h1, h2, h3, h4, h5⟩ e k _ => ⟨a, vs, h1, h2, h3, by rw [k a ((h3 a).mpr rfl)]; exact h4, h5.ex e⟩
abbrev lst (K : PySem.W.Frag) (ds : List D) : Sl := .res (lstR K none ds)
section
variable {K : PySem.W.Frag} {s s1 s2 s3 s' : S} {ta tb te tc : TE} {t u : TT} {x y z d : D} {b : Bool}
/-! ### values -/
theorem ev_var {i : Nat} (h : s.s[i]? = some (.dat d)) : Ev K (tVar i) s d s := fun σ H F fp E Q q => by
  obtain ⟨v, h1, h2⟩ := E.sl i _ h
  exact ⟨v, h1, q v H F fp E (Step.refl _ _ _) h2⟩
theorem ev_int {i : Int} : Ev K (tC (.int i)) s (.int i) s := fun σ H F fp E Q q => q _ H F fp E (Step.refl _ _ _) (.int i)
theorem ev_bl {i : Bool} : Ev K (tC (.bl i)) s (.bool i) s := fun σ H F fp E Q q => q _ H F fp E (Step.refl _ _ _) (.bl i)
theorem ev_str {i : Str} : Ev K (tC (.str i)) s (.str i) s := fun σ H F fp E Q q => q _ H F fp E (Step.refl _ _ _) (.str i)
theorem ev_non : Ev K (tC .non) s .none s := fun σ H F fp E Q q => q _ H F fp E (Step.refl _ _ _) .non
theorem Ev.to (h : Ev K te s x s') (e : x = y) : Ev K te s y s' := e ▸ h
theorem EvT.to {c : Bool} (h : EvT K t s b s') (e : b = c) : EvT K t s c s' := e ▸ h
/-! ### argument lists -/
theorem ea_nil : EvA K tNil s [] s := fun σ H F fp E Q q => q _ H F fp E (Step.refl _ _ _) .nil
theorem ea_cons {tr : TA} {ds : List D} (h : Ev K te s d s1) (hr : EvA K tr s1 ds s2) : EvA K (tCons te tr) s (d :: ds) s2 := fun σ H F fp E Q q =>
  h σ H F fp E _ fun v H1 F1 fp1 E1 st1 a1 => hr σ H1 F1 fp1 E1 _ fun vs H2 F2 fp2 E2 st2 a2 => q _ H2 F2 fp2 E2 (st1.trans st2) (.cons (a1.ex st2.ex) a2)
/-! ### displays -/
theorem ev_tup {t : TA} {ds : List D} (h : EvA K t s ds s1) (hl : ds.length ≤ sizeLine) : Ev K (tTup t) s (.tuple ds) s1 := fun σ H F fp E Q q =>
  h σ H F fp E _ fun vs H1 F1 fp1 E1 st1 a1 => ⟨by rw [a1.length]; exact hl, fun p hp => by
    have g : Grow F1 H1 (upd F1 p (.tup vs)) (upd H1 p (.tup vs)) := Grow.laid E1.ex hp
    exact q _ _ _ fp1 (E1.grow g) (st1.trans (E1.growS g)) (.tup (.inl (.inl upd_same)) (a1.ex g.f))⟩
theorem ev_lst {t : TA} {ds : List D} (h : EvA K t s ds s1) (hl : ds.length ≤ sizeLine) : Ev K (tLst t) s (.list ds) s1 := fun σ H F fp E Q q =>
  h σ H F fp E _ fun vs H1 F1 fp1 E1 st1 a1 => ⟨by rw [a1.length]; exact hl, fun p hp => by
    have g : Grow F1 H1 (upd F1 p (.lst vs)) (upd H1 p (.lst vs)) := Grow.laid E1.ex hp
    exact q _ _ _ fp1 (E1.grow g) (st1.trans (E1.growS g)) (.lst upd_same (a1.ex g.f))⟩
/-- a new thing that is owned: H grows, F does not -/
theorem EnvW.growH {σ : L2.St} {H F : Hp} {fp : Fp} {p : Addr} {o : HO} (E : EnvW K σ s H F fp) (hp : H p = none) : EnvW K σ s (upd H p o) F fp where
  ex := E.ex.trans (Ex.new hp)
  len := E.len
  sl := fun i x h => (E.sl i x h).mono (Ex.refl F) (fun b hb => (E.th _ b hb).get (Ex.new hp)) (ExtKeep.of (Ex.new hp))
  tb := E.tb.ext (Ex.new hp)
  dj := E.dj
  nf := E.nf
  th := fun i b h => (E.th i b h).ex (Ex.new hp)
  nt := E.nt
theorem Step.growH {H F : Hp} {fp : Fp} {p : Addr} {o : HO} (hp : H p = none) : Step H F fp (upd H p o) F fp :=
  ⟨Ex.refl F, fun _ h _ _ => h, fun b u h _ _ => by rw [upd_ne (ne_of_none h hp)]; exact h, fun i b h => .inl ⟨i, h⟩, ExtKeep.of (Ex.new hp)⟩
theorem Own.laid {σ : L2.St} {H F : Hp} {fp : Fp} {p : Addr} {o : HO} {H0 : Hp} {fp0 : Fp} {F0 : Hp} (E : EnvW K σ s H F fp) (st : Step H0 F0 fp0 H F fp) (hp : H p = none) (hn : NoTbl o := by intro ps z; cases z) : Own H0 fp0 (upd H p o) F fp (fun b => b = p) where
  nf := fun b h => by subst h; exact E.ex.un hp
  dj := fun b i h1 h2 => by subst h1; exact (E.th i _ h2).ne hp rfl
  th := fun b h => by subst h; exact ⟨o, upd_same, hn⟩
  new := fun b h => by
    subst h
    by_cases z : ∃ j, fp0 j b
    · exact .inl z
    · exact .inr fun l => (st.live l fun i hi => z ⟨i, hi⟩).ne hp rfl
theorem eo_lst {t : TA} {ds : List D} (h : EvA K t s ds s1) (hl : ds.length ≤ sizeLine) : EvO K (tLst t) s (lstR K none ds) s1 := fun σ H F fp E Q q =>
  h σ H F fp E _ fun vs H1 F1 fp1 E1 st1 a1 => ⟨by rw [a1.length]; exact hl, fun p hp =>
    q _ _ F1 fp1 (fun b => b = p) (E1.growH hp) (st1.trans (Step.growH hp)) ⟨p, vs, rfl, (fun _ z => nomatch z), fun _ => Iff.rfl, upd_same, a1⟩ (Own.laid E1 st1 hp)⟩
/-! ### operators by data: an operand may be an owned list -/
def AtC (K : PySem.W.Frag) (F H : Hp) (v : V) (d : D) : Prop := At K F v d ∨ ∃ a vs ds, v = .ref a ∧ d = .list ds ∧ H a = some (.lst vs) ∧ AtAll K F vs ds
inductive AtCs (K : PySem.W.Frag) (F H : Hp) : List V → List D → Prop
  | nil : AtCs K F H [] []
  | cons {v : V} {vs : List V} {d : D} {ds : List D} : AtC K F H v d → AtCs K F H vs ds → AtCs K F H (v :: vs) (d :: ds)
theorem AtCs.of {F H : Hp} : ∀ {vs : List V} {ds : List D}, AtAll K F vs ds → AtCs K F H vs ds
  | _, _, .nil => .nil
  | _, _, .cons h t => .cons (.inl h) (AtCs.of t)
def rD2 (K : PySem.W.Frag) (ok : D → D → Prop) (f : D → D → D) : R2 := fun x y H Q => ∃ F dx dy, Ex F H ∧ AtC K F H x dx ∧ AtC K F H y dy ∧ ok dx dy ∧ ∀ v H' F', Grow F H F' H' → At K F' v (f dx dy) → Q v H'
theorem ev_op {ok : D → D → Prop} {f : D → D → D} (ha : Ev K ta s x s1) (hb : Ev K tb s1 y s2) (h : ok x y) : Ev K (tOp (rD2 K ok f) ta tb) s (f x y) s2 := fun σ H F fp E Q q =>
  ha σ H F fp E _ fun vx H1 F1 fp1 E1 st1 a1 => hb σ H1 F1 fp1 E1 _ fun vy H2 F2 fp2 E2 st2 a2 =>
    ⟨F2, x, y, E2.ex, .inl (a1.ex st2.ex), .inl a2, h, fun v H' F' g a => q v H' F' fp2 (E2.grow g) ((st1.trans st2).trans (E2.growS g)) a⟩
def rD1 (K : PySem.W.Frag) (ok : D → Prop) (f : D → D) : V → Hp → VK → Prop := fun x H Q => ∃ F dx, Ex F H ∧ AtC K F H x dx ∧ ok dx ∧ ∀ v H' F', Grow F H F' H' → At K F' v (f dx) → Q v H'
theorem ev_un {ok : D → Prop} {f : D → D} (ha : Ev K ta s x s1) (h : ok x) : Ev K (tUn (rD1 K ok f) ta) s (f x) s1 := fun σ H F fp E Q q =>
  ha σ H F fp E _ fun vx H1 F1 fp1 E1 st1 a1 => ⟨F1, x, E1.ex, .inl a1, h, fun v H' F' g a => q v H' F' fp1 (E1.grow g) (st1.trans (E1.growS g)) a⟩
/-- a built-in called with data -/
def rDn (K : PySem.W.Frag) (ok : List D → Prop) (f : List D → D) : List V → Hp → VK → Prop := fun xs H Q => ∃ F ds, Ex F H ∧ AtCs K F H xs ds ∧ ok ds ∧ ∀ v H' F', Grow F H F' H' → At K F' v (f ds) → Q v H'
theorem ev_cb {ok : List D → Prop} {f : List D → D} {t : TA} {ds : List D} (ha : EvA K t s ds s1) (h : ok ds) : Ev K (tCB (rDn K ok f) t) s (f ds) s1 := fun σ H F fp E Q q =>
  ha σ H F fp E _ fun vs H1 F1 fp1 E1 st1 a1 => ⟨F1, ds, E1.ex, AtCs.of a1, h, fun v H' F' g a => q v H' F' fp1 (E1.grow g) (st1.trans (E1.growS g)) a⟩
/-! ### an owned list as an operand -/
theorem EnvW.own {σ : L2.St} {H F : Hp} {fp : Fp} {i : Nat} {ov : Option V} {ds : List D} (E : EnvW K σ s H F fp) (h : s.s[i]? = some (.res (lstR K ov ds))) : ∃ a vs, σ[i]? = some (some (.ref a)) ∧ (∀ b, fp (.inl i) b ↔ b = a) ∧ H a = some (.lst vs) ∧ AtAll K F vs ds := by
  obtain ⟨a, vs, h1, _, h3, h4, h5⟩ := E.sl i _ h
  exact ⟨a, vs, h1, h3, h4, h5⟩
theorem ev_op1 {ok : D → D → Prop} {f : D → D → D} {i : Nat} {ov ov' : Option V} {ds ds' : List D} (hi : s.s[i]? = some (.res (lstR K ov ds))) (hb : Ev K tb s y s2) (hi2 : s2.s[i]? = some (.res (lstR K ov' ds'))) (h : ok (.list ds') y) : Ev K (tOp (rD2 K ok f) (tVar i) tb) s (f (.list ds') y) s2 := fun σ H F fp E Q q => by
  obtain ⟨a, vs, h1, _⟩ := E.own hi
  refine ⟨.ref a, h1, hb σ H F fp E _ fun vy H2 F2 fp2 E2 st2 a2 => ?_⟩
  obtain ⟨a', vs', h1', _, h4, h5⟩ := E2.own hi2
  rw [h1] at h1'
  cases h1'
  exact ⟨F2, .list ds', y, E2.ex, .inr ⟨_, _, _, rfl, rfl, h4, h5⟩, .inl a2, h, fun v H' F' g a => q v H' F' fp2 (E2.grow g) (st2.trans (E2.growS g)) a⟩
theorem ev_op2 {ok : D → D → Prop} {f : D → D → D} {i : Nat} {ov : Option V} {ds : List D} (ha : Ev K ta s x s1) (hi : s1.s[i]? = some (.res (lstR K ov ds))) (h : ok x (.list ds)) : Ev K (tOp (rD2 K ok f) ta (tVar i)) s (f x (.list ds)) s1 := fun σ H F fp E Q q =>
  ha σ H F fp E _ fun vx H1 F1 fp1 E1 st1 a1 => by
    obtain ⟨a, vs, h1, _, h4, h5⟩ := E1.own hi
    exact ⟨.ref a, h1, F1, x, .list ds, E1.ex, .inl a1, .inr ⟨_, _, _, rfl, rfl, h4, h5⟩, h, fun v H' F' g a => q v H' F' fp1 (E1.grow g) (st1.trans (E1.growS g)) a⟩
theorem ev_cb1 {ok : List D → Prop} {f : List D → D} {i : Nat} {ov : Option V} {ds : List D} (hi : s.s[i]? = some (.res (lstR K ov ds))) (h : ok [.list ds]) : Ev K (tCB (rDn K ok f) (tCons (tVar i) tNil)) s (f [.list ds]) s := fun σ H F fp E Q q => by
  obtain ⟨a, vs, h1, _, h4, h5⟩ := E.own hi
  exact ⟨.ref a, h1, F, [.list ds], E.ex, .cons (.inr ⟨_, _, _, rfl, rfl, h4, h5⟩) .nil, h, fun v H' F' g a => q v H' F' fp (E.grow g) (E.growS g) a⟩
/-! ### tests -/
theorem et_test (h : Ev K te s (.bool b) s1) : EvT K (tTest te) s b s1 := fun σ H F fp E Q q =>
  h σ H F fp E _ fun v H1 F1 fp1 E1 st1 a1 => by cases a1; exact ⟨b, rfl, q H1 F1 fp1 E1 st1⟩
theorem et_B (h : Ev K te s (.bool b) s1) : EvT K (tB te) s b s1 := fun σ H F fp E Q q =>
  h σ H F fp E _ fun v H1 F1 fp1 E1 st1 a1 => by cases a1; exact ⟨b, rfl, q H1 F1 fp1 E1 st1⟩
theorem et_not (h : EvT K t s b s1) : EvT K (tNot t) s (!b) s1 := fun σ H F fp E Q q => h σ H F fp E _ fun H1 F1 fp1 E1 st1 => q H1 F1 fp1 E1 st1
theorem et_and {a : Bool} (h1 : EvT K t s a s1) (h2 : a = true → EvT K u s1 b s1) : EvT K (tAnd t u) s (a && b) s1 := fun σ H F fp E Q q =>
  h1 σ H F fp E _ fun H1 F1 fp1 E1 st1 => by
    cases a with
    | true =>
      show u σ H1 Q
      exact h2 rfl σ H1 F1 fp1 E1 Q fun H2 F2 fp2 E2 st2 => q H2 F2 fp2 E2 (st1.trans st2)
    | false =>
      show Q false H1
      exact q H1 F1 fp1 E1 st1
theorem et_or {a : Bool} (h1 : EvT K t s a s1) (h2 : a = false → EvT K u s1 b s1) : EvT K (tOr t u) s (a || b) s1 := fun σ H F fp E Q q =>
  h1 σ H F fp E _ fun H1 F1 fp1 E1 st1 => by
    cases a with
    | true =>
      show Q true H1
      exact q H1 F1 fp1 E1 st1
    | false =>
      show u σ H1 Q
      exact h2 rfl σ H1 F1 fp1 E1 Q fun H2 F2 fp2 E2 st2 => q H2 F2 fp2 E2 (st1.trans st2)
theorem ev_and {a : Bool} (h1 : Ev K ta s (.bool a) s1) (h2 : a = true → Ev K tb s1 (.bool b) s1) : Ev K (tAndV ta tb) s (.bool (a && b)) s1 := fun σ H F fp E Q q =>
  h1 σ H F fp E _ fun v H1 F1 fp1 E1 st1 a1 => by
    cases a1
    refine ⟨a, rfl, ?_⟩
    cases a with
    | true =>
      show tb σ H1 Q
      exact h2 rfl σ H1 F1 fp1 E1 Q fun v H2 F2 fp2 E2 st2 a2 => q v H2 F2 fp2 E2 (st1.trans st2) a2
    | false =>
      show Q (.bl false) H1
      exact q _ H1 F1 fp1 E1 st1 (.bl false)
theorem ev_or {a : Bool} (h1 : Ev K ta s (.bool a) s1) (h2 : a = false → Ev K tb s1 (.bool b) s1) : Ev K (tOrV ta tb) s (.bool (a || b)) s1 := fun σ H F fp E Q q =>
  h1 σ H F fp E _ fun v H1 F1 fp1 E1 st1 a1 => by
    cases a1
    refine ⟨a, rfl, ?_⟩
    cases a with
    | true =>
      show Q (.bl true) H1
      exact q _ H1 F1 fp1 E1 st1 (.bl true)
    | false =>
      show tb σ H1 Q
      exact h2 rfl σ H1 F1 fp1 E1 Q fun v H2 F2 fp2 E2 st2 a2 => q v H2 F2 fp2 E2 (st1.trans st2) a2
theorem ev_not {a : Bool} (h1 : Ev K ta s (.bool a) s1) : Ev K (tNotV ta) s (.bool (!a)) s1 := fun σ H F fp E Q q =>
  h1 σ H F fp E _ fun v H1 F1 fp1 E1 st1 a1 => by cases a1; exact ⟨a, rfl, q _ H1 F1 fp1 E1 st1 (.bl _)⟩
theorem ev_if (h : EvT K t s b s1) (h1 : b = true → Ev K ta s1 x s2) (h2 : b = false → Ev K tb s1 x s2) : Ev K (tIf t ta tb) s x s2 := fun σ H F fp E Q q =>
  h σ H F fp E _ fun H1 F1 fp1 E1 st1 => by
    cases b with
    | true =>
      show ta σ H1 Q
      exact h1 rfl σ H1 F1 fp1 E1 Q fun v H2 F2 fp2 E2 st2 a2 => q v H2 F2 fp2 E2 (st1.trans st2) a2
    | false =>
      show tb σ H1 Q
      exact h2 rfl σ H1 F1 fp1 E1 Q fun v H2 F2 fp2 E2 st2 a2 => q v H2 F2 fp2 E2 (st1.trans st2) a2
theorem ev_ifD (h : EvT K t s b s1) (h1 : b = true → Ev K ta s1 x s1) (h2 : b = false → Ev K tb s1 y s1) : Ev K (tIf t ta tb) s (if b = true then x else y) s1 := by
  refine ev_if h (fun e => ?_) (fun e => ?_)
  · subst e; exact h1 rfl
  · subst e; exact h2 rfl
/-- a < b < c -/
theorem ev_chain {ok ok' : D → D → Prop} {f f' : D → D → D} {k k' : Bool} (ha : Ev K ta s x s1) (hb : Ev K tb s1 y s2) (hok : ok x y) (hf : f x y = .bool k) (hc : k = true → Ev K tc s2 z s2) (hok' : k = true → ok' y z) (hf' : k = true → f' y z = .bool k') :
    Ev K (tChain (rD2 K ok f) (rD2 K ok' f') ta tb tc) s (.bool (k && k')) s2 := fun σ H F fp E Q q =>
  ha σ H F fp E _ fun vx H1 F1 fp1 E1 st1 a1 => hb σ H1 F1 fp1 E1 _ fun vy H2 F2 fp2 E2 st2 a2 =>
    ⟨F2, x, y, E2.ex, .inl (a1.ex st2.ex), .inl a2, hok, fun v H3 F3 g a => by
      have E3 := E2.grow g
      have st3 := (st1.trans st2).trans (E2.growS g)
      rw [hf] at a
      cases a
      refine ⟨k, rfl, ?_⟩
      cases k with
      | true =>
        refine hc rfl σ H3 F3 fp2 E3 _ fun vz H4 F4 fp4 E4 st4 a4 => ⟨F4, y, z, E4.ex, .inl (a2.ex (g.f.trans st4.ex)), .inl a4, hok' rfl, fun v H5 F5 g5 a5 => ?_⟩
        rw [hf' rfl] at a5
        exact q v H5 F5 fp4 (E4.grow g5) ((st3.trans st4).trans (E4.growS g5)) a5
      | false => exact q _ H3 F3 fp2 E3 st3 (.bl false)⟩
end
end DL

namespace DL
open PySem PySem.Spec PyProof.Rows L2
/-! ### statements -/
inductive Out where
  | nx (s : S) | bk (s : S) | rt (d : D) (s : S) | ro (r : Rs) (s : S) | ex (C : Addr) (fl : Str) (d : D) (s : S)
def OutOk (K : PySem.W.Frag) (E : XK) (H F : Hp) (fp : Fp) (Ed : Ends) : Out → Prop
  | .nx s' => ∀ σ' H' F' fp', EnvW K σ' s' H' F' fp' → Step H F fp H' F' fp' → Ed.nx σ' H'
  | .bk s' => ∀ σ' H' F' fp', EnvW K σ' s' H' F' fp' → Step H F fp H' F' fp' → Ed.bk σ' H'
  | .rt d s' => ∀ σ' v H' F' fp', EnvW K σ' s' H' F' fp' → Step H F fp H' F' fp' → At K F' v d → Ed.rt v H'
  | .ro r s' => ∀ σ' v H' F' fp' P, EnvW K σ' s' H' F' fp' → Step H F fp H' F' fp' → r.ok F' H' P (some (some v)) → Own H fp H' F' fp' P → Ed.rt v H'
  | .ex C fl d s' => ∀ σ' dd v H' F' fp', EnvW K σ' s' H' F' fp' → Step H F fp H' F' fp' → H' dd = some (.xd [(fl, v)]) → At K F' v d → E (.ref C) (some dd) H'
def Run (K : PySem.W.Frag) (E : XK) (ts : TS) (s : S) (o : Out) : Prop := ∀ σ H F fp, EnvW K σ s H F fp → ∀ Ed : Ends, OutOk K E H F fp Ed o → ts Ed σ H
theorem Own.step {H F H1 F1 H' F' : Hp} {fp fp1 fp' : Fp} {P : Addr → Prop} (st : Step H F fp H1 F1 fp1) (o : Own H1 fp1 H' F' fp' P) : Own H fp H' F' fp' P := ⟨o.nf, o.dj, o.th, fun b h => by
  rcases o.new b h with ⟨j, hj⟩ | hn
  · exact st.fpn j b hj
  · by_cases z : ∃ j, fp j b
    · exact .inl z
    · exact .inr fun l => hn (st.live l fun i hi => z ⟨i, hi⟩)⟩
theorem OutOk.step {K : PySem.W.Frag} {E : XK} {H F H1 F1 : Hp} {fp fp1 : Fp} {Ed : Ends} {o : Out} (h : OutOk K E H F fp Ed o) (st : Step H F fp H1 F1 fp1) : OutOk K E H1 F1 fp1 Ed o := by
  cases o with
  | nx s' => exact fun σ' H' F' fp' e st' => h σ' H' F' fp' e (st.trans st')
  | bk s' => exact fun σ' H' F' fp' e st' => h σ' H' F' fp' e (st.trans st')
  | rt d s' => exact fun σ' v H' F' fp' e st' a => h σ' v H' F' fp' e (st.trans st') a
  | ro r s' => exact fun σ' v H' F' fp' P e st' a o => h σ' v H' F' fp' P e (st.trans st') a (o.step st)
  | ex C fl d s' => exact fun σ' dd v H' F' fp' e st' a b => h σ' dd v H' F' fp' e (st.trans st') a b
def Out.ends : Out → Bool
  | .nx _ => false
  | _ => true
theorem OutOk.nx {K : PySem.W.Frag} {E : XK} {H F : Hp} {fp : Fp} {Ed : Ends} {N : L2.St → Hp → Prop} {o : Out} (h : OutOk K E H F fp Ed o) (e : o.ends = true) : OutOk K E H F fp { Ed with nx := N } o := by
  cases o with
  | nx s' => cases e
  | bk s' => exact h
  | rt d s' => exact h
  | ro r s' => exact h
  | ex C fl d s' => exact h
/-- what a state forgets -/
def SLe (s1 s2 : S) : Prop := s1.s.length = s2.s.length ∧ (∀ (i : Nat) (x : Sl), s2.s[i]? = some x → x = .unk ∨ s1.s[i]? = some x) ∧ s1.g = s2.g
theorem SLe.refl (s : S) : SLe s s := ⟨rfl, fun _ _ h => .inr h, rfl⟩
theorem EnvW.le {K : PySem.W.Frag} {σ : L2.St} {s1 s2 : S} {H F : Hp} {fp : Fp} (E : EnvW K σ s1 H F fp) (l : SLe s1 s2) : EnvW K σ s2 H F fp where
  ex := E.ex
  len := E.len.trans l.1
  sl := fun i x h => by
    rcases l.2.1 i x h with rfl | q
    · trivial
    · exact E.sl i x q
  tb := by rw [← l.2.2]; exact E.tb
  dj := E.dj
  nf := E.nf
  th := E.th
  nt := E.nt
/-- slot i gets an owned thing -/
theorem EnvW.setO {K : PySem.W.Frag} {σ : L2.St} {s : S} {H F H0 : Hp} {fp fp0 : Fp} {i : Nat} {v : V} {r : Rs} {P : Addr → Prop} (E : EnvW K σ s H F fp) (h : r.ok F H P (some (some v))) (o : Own H0 fp0 H F fp P) : EnvW K (σ.set i (some v)) (s.set i (.res r)) H F (fpSet fp (.inl i) P) where
  ex := E.ex
  len := by simp [S.set, E.len]
  sl := fun j y hj => by
    by_cases z : j = i
    · subst z
      have hl : j < s.s.length := by
        have := (List.getElem?_eq_some_iff.mp hj).1
        simpa [S.set] using this
      have e1 : (s.s.set j (.res r))[j]? = some (.res r) := List.getElem?_set_self hl
      rw [show (s.set j (.res r)).s = s.s.set j (.res r) from rfl, e1] at hj
      cases hj
      rw [fpSet_same, List.getElem?_set_self (by rw [E.len]; exact hl)]
      exact h
    · have e1 : (s.s.set i (.res r))[j]? = s.s[j]? := List.getElem?_set_ne (Ne.symm z)
      rw [show (s.set i (.res r)).s = s.s.set i (.res r) from rfl, e1] at hj
      rw [fpSet_ne (by intro q; cases q; exact z rfl), List.getElem?_set_ne (Ne.symm z)]
      exact E.sl j y hj
  tb := E.tb
  dj := fun j k b hjk h1 h2 => by
    by_cases z : j = .inl i
    · subst z; rw [fpSet_same] at h1; rw [fpSet_ne (Ne.symm hjk)] at h2; exact o.dj b k h1 h2
    · rw [fpSet_ne z] at h1
      by_cases y : k = .inl i
      · subst y; rw [fpSet_same] at h2; exact o.dj b j h2 h1
      · rw [fpSet_ne y] at h2; exact E.dj j k b hjk h1 h2
  nf := fun j b h1 => by
    by_cases z : j = .inl i
    · subst z; rw [fpSet_same] at h1; exact o.nf b h1
    · rw [fpSet_ne z] at h1; exact E.nf j b h1
  th := fun j b h1 => by
    by_cases z : j = .inl i
    · subst z; rw [fpSet_same] at h1; exact o.th b h1
    · rw [fpSet_ne z] at h1; exact E.th j b h1
  nt := E.nt
theorem Step.own {H F H' F' : Hp} {fp fp' : Fp} {P : Addr → Prop} {i : Ix} (st : Step H F fp H' F' fp') (o : Own H fp H' F' fp' P) : Step H F fp H' F' (fpSet fp' i P) := ⟨st.ex, st.new, st.keep, fun j b h => by
  by_cases z : j = i
  · subst z; rw [fpSet_same] at h; exact o.new b h
  · rw [fpSet_ne z] at h; exact st.fpn j b h, st.ext⟩
section
variable {K : PySem.W.Frag} {E : XK} {s s1 s2 s' : S} {te ta tb : TE} {t u ts : TS} {tt : TT} {d : D} {o : Out} {b : Bool}
theorem run_seq (h1 : Run K E t s (.nx s1)) (h2 : Run K E u s1 o) : Run K E (tSeq t u) s o := fun σ H F fp e Ed q =>
  h1 σ H F fp e _ fun σ' H' F' fp' e' st => h2 σ' H' F' fp' e' Ed (q.step st)
theorem run_end (h1 : Run K E t s o) (he : o.ends = true) : Run K E (tSeq t u) s o := fun σ H F fp e Ed q => h1 σ H F fp e _ (q.nx he)
theorem run_asg {i : Nat} (h : Ev K te s d s1) : Run K E (tAsg te (gName i)) s (.nx (s1.set i (.dat d))) := fun σ H F fp e Ed q =>
  h σ H F fp e _ fun v H' F' fp' e' st a => q _ H' F' _ (e'.set (i := i) ⟨v, rfl, a⟩) (st.trans Step.drop)
theorem run_asgO {i : Nat} {r : Rs} (h : EvO K te s r s1) : Run K E (tAsg te (gName i)) s (.nx (s1.set i (.res r))) := fun σ H F fp e Ed q =>
  h σ H F fp e _ fun v H' F' fp' P e' st a o => q _ H' F' _ (e'.setO (i := i) a o) (st.own o)
theorem run_drop (h : Ev K te s d s1) : Run K E (tDrop te) s (.nx s1) := fun σ H F fp e Ed q =>
  h σ H F fp e _ fun v H' F' fp' e' st a => q _ H' F' _ e' st
theorem run_ret (h : Ev K te s d s1) : Run K E (tRet te) s (.rt d s1) := fun σ H F fp e Ed q =>
  h σ H F fp e _ fun v H' F' fp' e' st a => q σ v H' F' _ e' st a
theorem run_retO {r : Rs} (h : EvO K te s r s1) : Run K E (tRet te) s (.ro r s1) := fun σ H F fp e Ed q =>
  h σ H F fp e _ fun v H' F' fp' P e' st a o => q σ v H' F' _ P e' st a o
theorem run_if (h : EvT K tt s b s1) (h1 : b = true → Run K E t s1 o) (h2 : b = false → Run K E u s1 o) : Run K E (tIfS tt t u) s o := fun σ H F fp e Ed q =>
  h σ H F fp e _ fun H1 F1 fp1 e1 st => by
    cases b with
    | true =>
      show t Ed σ H1
      exact h1 rfl σ H1 F1 fp1 e1 Ed (q.step st)
    | false =>
      show u Ed σ H1
      exact h2 rfl σ H1 F1 fp1 e1 Ed (q.step st)
theorem run_yes (h : EvT K tt s true s1) (h1 : Run K E t s1 o) : Run K E (tIfS tt t u) s o := run_if h (fun _ => h1) (fun z => nomatch z)
theorem run_no (h : EvT K tt s false s1) (h1 : Run K E u s1 o) : Run K E (tIfS tt t u) s o := run_if h (fun z => nomatch z) (fun _ => h1)
theorem run_next : Run K E tNext s (.nx s) := fun σ H F fp e Ed q => q σ H F fp e (Step.refl _ _ _)
theorem run_break : Run K E tBreak s (.bk s) := fun σ H F fp e Ed q => q σ H F fp e (Step.refl _ _ _)
theorem run_le (h : Run K E t s (.nx s1)) (l : SLe s1 s2) : Run K E t s (.nx s2) := fun σ H F fp e Ed q => h σ H F fp e Ed fun σ' H' F' fp' e' st => q σ' H' F' fp' (e'.le l) st
theorem run_pre (h : Run K E t s2 o) (l : SLe s1 s2) : Run K E t s1 o := fun σ H F fp e Ed q => h σ H F fp (e.le l) Ed q
/-- a, b = x, y (plain locals) -/
theorem run_par {i j : Nat} {d1 d2 : D} {ta : TA} (h : EvA K ta s [d1, d2] s1) : Run K E (tPar i j ta) s (.nx ((s1.set i (.dat d1)).set j (.dat d2))) := fun σ H F fp e Ed q =>
  h σ H F fp e _ fun vs H' F' fp' e' st a => by
    cases a with
    | cons a1 t1 => cases t1 with
      | cons a2 t2 => cases t2; exact ⟨_, _, rfl, q _ H' F' _ ((e'.set (i := i) (x := .dat d1) ⟨_, rfl, a1⟩).set (i := j) (x := .dat d2) ⟨_, rfl, a2⟩) ((st.trans Step.drop).trans Step.drop)⟩
theorem run_par3 {i j l : Nat} {d1 d2 d3 : D} {ta : TA} (h : EvA K ta s [d1, d2, d3] s1) : Run K E (tPar3 i j l ta) s (.nx (((s1.set i (.dat d1)).set j (.dat d2)).set l (.dat d3))) := fun σ H F fp e Ed q =>
  h σ H F fp e _ fun vs H' F' fp' e' st a => by
    cases a with
    | cons a1 t1 => cases t1 with
      | cons a2 t2 => cases t2 with
        | cons a3 t3 => cases t3; exact ⟨_, _, _, rfl, q _ H' F' _ (((e'.set (i := i) (x := .dat d1) ⟨_, rfl, a1⟩).set (i := j) (x := .dat d2) ⟨_, rfl, a2⟩).set (i := l) (x := .dat d3) ⟨_, rfl, a3⟩) (((st.trans Step.drop).trans Step.drop).trans Step.drop)⟩
/-! ### targets -/
def Tg (K : PySem.W.Frag) (g : TG) (s : S) (d : D) (s' : S) : Prop := ∀ σ H F fp v, EnvW K σ s H F fp → At K F v d → ∀ Q : L2.St → Hp → Prop, (∀ σ' fp', EnvW K σ' s' H F fp' → Step H F fp H F fp' → Q σ' H) → g v σ H Q
def Tgs (K : PySem.W.Frag) (g : TGs) (s : S) (ds : List D) (s' : S) : Prop := ∀ σ H F fp vs, EnvW K σ s H F fp → AtAll K F vs ds → ∀ Q : L2.St → Hp → Prop, (∀ σ' fp', EnvW K σ' s' H F fp' → Step H F fp H F fp' → Q σ' H) → g vs σ H Q
theorem tg_name {i : Nat} : Tg K (gName i) s d (s.set i (.dat d)) := fun σ H F fp v e a Q q => q _ _ (e.set (i := i) ⟨v, rfl, a⟩) Step.drop
theorem tg_nil : Tgs K gNil s [] s := fun σ H F fp vs e a Q q => by cases a; exact ⟨rfl, q σ fp e (Step.refl _ _ _)⟩
theorem tg_cons {g : TG} {gs : TGs} {ds : List D} (h1 : Tg K g s d s1) (h2 : Tgs K gs s1 ds s2) : Tgs K (gCons g gs) s (d :: ds) s2 := fun σ H F fp vs e a Q q => by
  cases a with
  | cons a1 t1 => exact ⟨_, _, rfl, h1 σ H F fp _ e a1 _ fun σ' fp' e' st => h2 σ' H F fp' _ e' t1 _ fun σ2 fp2 e2 st2 => q σ2 fp2 e2 (st.trans st2)⟩
theorem tg_tup {gs : TGs} {ds : List D} {n : Nat} (h : Tgs K gs s ds s') (hn : ds.length = n) : Tg K (gTup K n gs) s (.tuple ds) s' := fun σ H F fp v e a Q q => by
  cases a with
  | tup h1 h2 => exact ⟨_, _, rfl, e.ex.sqT h1, by rw [h2.length]; exact hn, h σ H F fp _ e h2 Q q⟩
theorem run_asgT {g : TG} (h : Ev K te s d s1) (hg : Tg K g s1 d s2) : Run K E (tAsg te g) s (.nx s2) := fun σ H F fp e Ed q =>
  h σ H F fp e _ fun v H' F' fp' e' st a => hg σ H' F' fp' v e' a _ fun σ2 fp2 e2 st2 => q σ2 H' F' fp2 e2 (st.trans st2)
/-! ### what is walked -/
def IsIt (K : PySem.W.Frag) (J : It) (F : Hp) (ds : List D) : Prop := ∀ F' H' (i : Nat), Ex F F' → Ex F' H' → (∀ d, ds[i]? = some d → J.go i H' ∧ ∀ x H2, J.yld i H' x H2 → ∃ F2, Grow F' H' F2 H2 ∧ At K F2 x d) ∧ (i = ds.length → J.stop i H')
def IterD (K : PySem.W.Frag) (wi : TI) (s : S) (ds : List D) (s1 : S) : Prop := ∀ σ H F fp, EnvW K σ s H F fp → ∀ R : It → Hp → Prop, (∀ J H1 F1 fp1, EnvW K σ s1 H1 F1 fp1 → Step H F fp H1 F1 fp1 → IsIt K J F1 ds → R J H1) → wi σ H R
theorem it_list {ds : List D} {tl : TE} (h : Ev K tl s (.list ds) s1) : IterD K (iList K tl) s ds s1 := fun σ H F fp e R r =>
  h σ H F fp e _ fun v H1 F1 fp1 e1 st1 a1 => by
    cases a1 with
    | @lst a vs _ ha hv =>
      refine ⟨a, rfl, ⟨vs, .inl (.inl (e1.ex _ _ ha))⟩, r _ H1 F1 fp1 e1 st1 fun F' H' i hF hH => ⟨fun d hd => ?_, fun hi => ?_⟩⟩
      · obtain ⟨x, hx, _⟩ := hv.get hd
        refine ⟨⟨vs, x, .inl (.inl (hH _ _ (hF _ _ ha))), hx⟩, fun y H2 hy => ?_⟩
        obtain ⟨rfl, hy⟩ := hy
        have hy := hy vs (.inl (.inl (hH _ _ (hF _ _ ha))))
        obtain ⟨d', hd', had⟩ := hv.getV hy
        rw [hd] at hd'
        cases hd'
        exact ⟨F', Grow.refl hH, had.ex hF⟩
      · exact ⟨vs, .inl (.inl (hH _ _ (hF _ _ ha))), by rw [hv.length]; exact Nat.le_of_eq hi.symm⟩
theorem it_tup {ds : List D} {tl : TE} (h : Ev K tl s (.tuple ds) s1) : IterD K (iTup K tl) s ds s1 := fun σ H F fp e R r =>
  h σ H F fp e _ fun v H1 F1 fp1 e1 st1 a1 => by
    cases a1 with
    | @tup a vs _ ha hv =>
      refine ⟨a, rfl, ⟨vs, e1.ex.sqT ha⟩, r _ H1 F1 fp1 e1 st1 fun F' H' i hF hH => ⟨fun d hd => ?_, fun hi => ?_⟩⟩
      · obtain ⟨x, hx, _⟩ := hv.get hd
        refine ⟨⟨vs, x, hH.sqT (hF.sqT ha), hx⟩, fun y H2 hy => ?_⟩
        obtain ⟨rfl, hy⟩ := hy
        have hy := hy vs (hH.sqT (hF.sqT ha))
        obtain ⟨d', hd', had⟩ := hv.getV hy
        rw [hd] at hd'
        cases hd'
        exact ⟨F', Grow.refl hH, had.ex hF⟩
      · exact ⟨vs, hH.sqT (hF.sqT ha), by rw [hv.length]; exact Nat.le_of_eq hi.symm⟩
/-- the ints lo, lo + 1, .. -/
def upTo (lo : Int) (n : Nat) : List D := (List.range n).map fun i => .int (lo + (i : Nat))
theorem upTo_get {lo : Int} {n i : Nat} {d : D} (h : (upTo lo n)[i]? = some d) : i < n ∧ d = .int (lo + i) := by
  unfold upTo at h
  rw [List.getElem?_map] at h
  cases q : (List.range n)[i]? with
  | none => rw [q] at h; cases h
  | some j =>
    obtain ⟨hl, hj⟩ := List.getElem?_eq_some_iff.mp q
    rw [List.length_range] at hl
    rw [q] at h
    simp at hj h
    subst hj
    exact ⟨hl, h.symm⟩
theorem upTo_len {lo : Int} {n : Nat} : (upTo lo n).length = n := by simp [upTo]
theorem isIt_rng {F : Hp} {lo : Int} {n : Nat} : IsIt K (Itr lo n) F (upTo lo n) := fun F' H' i hF hH => ⟨fun d hd => by
  obtain ⟨h1, rfl⟩ := upTo_get hd
  refine ⟨h1, fun x H2 hy => ?_⟩
  obtain ⟨rfl, rfl⟩ := hy
  exact ⟨F', Grow.refl hH, .int _⟩, fun h => by rw [upTo_len] at h; exact Nat.le_of_eq h.symm⟩
theorem it_rng1 {n : Int} {ta : TA} (h : EvA K ta s [.int n] s1) (hn : -(2 ^ 62) ≤ n ∧ n < 2 ^ 62) : IterD K (iRng1 ta) s (upTo 0 n.toNat) s1 := fun σ H F fp e R r =>
  h σ H F fp e _ fun vs H1 F1 fp1 e1 st1 a1 => by
    cases a1 with
    | cons x y => cases x; cases y; exact ⟨n, rfl, hn.1, hn.2, r _ H1 F1 fp1 e1 st1 isIt_rng⟩
theorem it_rng2 {m n : Int} {ta : TA} (h : EvA K ta s [.int m, .int n] s1) (hn : -(2 ^ 62) ≤ m ∧ m < 2 ^ 62 ∧ -(2 ^ 62) ≤ n ∧ n < 2 ^ 62) : IterD K (iRng2 ta) s (upTo m (n - m).toNat) s1 := fun σ H F fp e R r =>
  h σ H F fp e _ fun vs H1 F1 fp1 e1 st1 a1 => by
    cases a1 with
    | cons x y => cases x; cases y with
      | cons x y => cases x; cases y; exact ⟨m, n, rfl, hn, r _ H1 F1 fp1 e1 st1 isIt_rng⟩
/-! ### loops -/
/-- a loop's way out of its body -/
def Out.out : Out → Out
  | .bk s => .nx s
  | o => o
theorem out_ok {H F : Hp} {fp : Fp} {Ed : Ends} {N C : L2.St → Hp → Prop} {o : Out} (h : OutOk K E H F fp Ed o.out) (e : o.ends = true) : OutOk K E H F fp { Ed with nx := N, ct := C, bk := Ed.nx } o := by
  cases o with
  | nx s' => cases e
  | bk s' => exact h
  | rt d s' => exact h
  | ro r s' => exact h
  | ex C fl d s' => exact h
/-- m turns, then the end or a way out -/
theorem run_forG {ds : List D} {wi : TI} {g : TG} (f : Nat → S) (m : Nat) (hw : IterD K wi s ds s1) (h0 : SLe s1 (f 0)) (hm : m ≤ ds.length)
    (hs : ∀ i d, i < m → ds[i]? = some d → ∃ s2, Tg K g (f i) d s2 ∧ Run K E t s2 (.nx (f (i + 1))))
    (he : (m = ds.length ∧ o = .nx (f m)) ∨ ∃ d s2 o', ds[m]? = some d ∧ Tg K g (f m) d s2 ∧ Run K E t s2 o' ∧ o'.ends = true ∧ o = o'.out) : Run K E (tFor wi g t) s o := fun σ H F fp e Ed q =>
  hw σ H F fp e _ fun J H1 F1 fp1 e1 st1 hJ => by
    refine ⟨fun i k σ' H' => k = m - i ∧ i ≤ m ∧ ∃ F' fp', EnvW K σ' (f i) H' F' fp' ∧ Step H F fp H' F' fp' ∧ Ex F1 F', ⟨m, rfl, Nat.zero_le _, F1, fp1, e1.le h0, st1, Ex.refl F1⟩, ?_⟩
    rintro i k σ' H' ⟨rfl, hi, F', fp', e', st', hF⟩
    obtain ⟨hgo, hstop⟩ := hJ F' H' i hF e'.ex
    by_cases him : i < m
    · have hil : i < ds.length := by omega
      obtain ⟨d, hd⟩ : ∃ d, ds[i]? = some d := ⟨ds[i], by simp [hil]⟩
      obtain ⟨s2, hg, hr⟩ := hs i d him hd
      obtain ⟨g1, g2⟩ := hgo d hd
      refine .inr ⟨g1, fun σ3 H3 => ∃ F3 fp3, EnvW K σ3 (f (i + 1)) H3 F3 fp3 ∧ Step H F fp H3 F3 fp3 ∧ Ex F1 F3, fun σ3 H3 ⟨F3, fp3, a, b, c⟩ => ⟨m - (i + 1), by omega, rfl, by omega, F3, fp3, a, b, c⟩, fun x H2 hy => ?_⟩
      obtain ⟨F2, gr, ax⟩ := g2 x H2 hy
      have e2 := e'.grow gr
      have st2 := st'.trans (e'.growS gr)
      exact hg σ' H2 F2 fp' x e2 ax _ fun σ4 fp4 e4 st4 => hr σ4 H2 F2 fp4 e4 _ fun σ5 H5 F5 fp5 e5 st5 => ⟨F5, fp5, e5, (st2.trans st4).trans st5, (hF.trans gr.f).trans st5.ex⟩
    · have hie : i = m := by omega
      subst hie
      rcases he with ⟨he, rfl⟩ | ⟨d, s2, o', hd, hg, hr, hend, rfl⟩
      · exact .inl ⟨hstop (by omega), q σ' H' F' fp' e' st'⟩
      · obtain ⟨g1, g2⟩ := hgo d hd
        refine .inr ⟨g1, fun _ _ => False, fun _ _ z => z.elim, fun x H2 hy => ?_⟩
        obtain ⟨F2, gr, ax⟩ := g2 x H2 hy
        have e2 := e'.grow gr
        have st2 := st'.trans (e'.growS gr)
        exact hg σ' H2 F2 fp' x e2 ax _ fun σ4 fp4 e4 st4 => hr σ4 H2 F2 fp4 e4 _ (out_ok (q.step (st2.trans st4)) hend)
theorem run_for {ds : List D} {wi : TI} {g : TG} (f : Nat → S) (hw : IterD K wi s ds s1) (h0 : SLe s1 (f 0))
    (hs : ∀ i d, ds[i]? = some d → ∃ s2, Tg K g (f i) d s2 ∧ Run K E t s2 (.nx (f (i + 1)))) : Run K E (tFor wi g t) s (.nx (f ds.length)) :=
  run_forG f ds.length hw h0 (Nat.le_refl _) (fun i d _ h => hs i d h) (.inl ⟨rfl, rfl⟩)
/-- while: n turns, then the end or a way out -/
theorem run_whileG (f : Nat → S) (g : Nat → S) (m : Nat) (h0 : SLe s (f 0)) (hs : ∀ i, i < m → EvT K tt (f i) true (g i) ∧ Run K E t (g i) (.nx (f (i + 1))))
    (he : (EvT K tt (f m) false s1 ∧ o = .nx s1) ∨ ∃ o', EvT K tt (f m) true (g m) ∧ Run K E t (g m) o' ∧ o'.ends = true ∧ o = o'.out) : Run K E (tWhile tt t) s o := fun σ H F fp e Ed q => by
  refine ⟨fun k σ' H' => ∃ i, k = m - i ∧ i ≤ m ∧ ∃ F' fp', EnvW K σ' (f i) H' F' fp' ∧ Step H F fp H' F' fp', ⟨m, 0, rfl, Nat.zero_le _, F, fp, e.le h0, Step.refl _ _ _⟩, ?_⟩
  rintro k σ' H' ⟨i, rfl, hi, F', fp', e', st'⟩
  by_cases him : i < m
  · obtain ⟨h1, h2⟩ := hs i him
    refine h1 σ' H' F' fp' e' _ fun H1 F1 fp1 e1 st1 => ?_
    show ∃ N : L2.St → Hp → Prop, _
    exact ⟨fun σ3 H3 => ∃ F3 fp3, EnvW K σ3 (f (i + 1)) H3 F3 fp3 ∧ Step H F fp H3 F3 fp3, fun σ3 H3 ⟨F3, fp3, a, b⟩ => ⟨m - (i + 1), by omega, i + 1, rfl, by omega, F3, fp3, a, b⟩,
      h2 σ' H1 F1 fp1 e1 _ fun σ5 H5 F5 fp5 e5 st5 => ⟨F5, fp5, e5, (st'.trans st1).trans st5⟩⟩
  · have hie : i = m := by omega
    subst hie
    rcases he with ⟨h1, rfl⟩ | ⟨o', h1, h2, hend, rfl⟩
    · exact h1 σ' H' F' fp' e' _ fun H1 F1 fp1 e1 st1 => q σ' H1 F1 fp1 e1 (st'.trans st1)
    · refine h1 σ' H' F' fp' e' _ fun H1 F1 fp1 e1 st1 => ?_
      show ∃ N : L2.St → Hp → Prop, _
      exact ⟨fun _ _ => False, fun _ _ z => z.elim, h2 σ' H1 F1 fp1 e1 _ (out_ok (q.step (st'.trans st1)) hend)⟩
theorem run_while (f : Nat → S) (g : Nat → S) (m : Nat) (h0 : SLe s (f 0)) (hs : ∀ i, i < m → EvT K tt (f i) true (g i) ∧ Run K E t (g i) (.nx (f (i + 1)))) (he : EvT K tt (f m) false s1) : Run K E (tWhile tt t) s (.nx s1) :=
  run_whileG f g m h0 hs (.inl ⟨he, rfl⟩)
end
end DL

namespace DL
open PySem PySem.Spec PyProof.Rows L2
/-! ### comprehensions -/
theorem wipe_get : ∀ (vs : List Nat) (σ : L2.St) (i : Nat), (wipe σ vs)[i]? = if i ∈ vs then (if i < σ.length then some none else none) else σ[i]?
  | [], σ, i => by simp [wipe]
  | v :: vs, σ, i => by
    unfold wipe
    by_cases h : i = v
    · subst h
      by_cases hl : i < σ.length
      · rw [List.getElem?_set_self (by rw [wipe_length]; exact hl)]; simp [hl]
      · rw [List.getElem?_eq_none (by rw [List.length_set, wipe_length]; omega)]; simp [hl]
    · rw [List.getElem?_set_ne (Ne.symm h), wipe_get vs σ i]
      simp [h]
theorem wipe_wipe (σ : L2.St) (vs : List Nat) : wipe (wipe σ vs) vs = wipe σ vs := by
  apply List.ext_getElem?
  intro i
  rw [wipe_get, wipe_length, wipe_get]
  by_cases h : i ∈ vs <;> simp [h]
theorem wipe_set {σ : L2.St} {vs : List Nat} {j : Nat} {x : Option V} (h : j ∈ vs) : wipe (σ.set j x) vs = wipe σ vs := by
  apply List.ext_getElem?
  intro i
  rw [wipe_get, wipe_get, List.length_set]
  by_cases hi : i ∈ vs
  · simp [hi]
  · have : i ≠ j := fun z => hi (z ▸ h)
    simp [hi, List.getElem?_set_ne (Ne.symm this)]
def wipeL (l : List Sl) : List Nat → List Sl
  | [] => l
  | v :: vs => (wipeL l vs).set v .unk
def S.wipe (s : S) (vs : List Nat) : S := ⟨wipeL s.s vs, s.g⟩
theorem wipeL_length (l : List Sl) : ∀ vs : List Nat, (wipeL l vs).length = l.length
  | [] => rfl
  | v :: vs => by unfold wipeL; rw [List.length_set, wipeL_length l vs]
theorem wipeL_get : ∀ (vs : List Nat) (l : List Sl) (i : Nat), (wipeL l vs)[i]? = if i ∈ vs then (if i < l.length then some .unk else none) else l[i]?
  | [], l, i => by simp [wipeL]
  | v :: vs, l, i => by
    unfold wipeL
    by_cases h : i = v
    · subst h
      by_cases hl : i < l.length
      · rw [List.getElem?_set_self (by rw [wipeL_length]; exact hl)]; simp [hl]
      · rw [List.getElem?_eq_none (by rw [List.length_set, wipeL_length]; omega)]; simp [hl]
    · rw [List.getElem?_set_ne (Ne.symm h), wipeL_get vs l i]
      simp [h]
section
variable {K : PySem.W.Frag} {E : XK} {s s1 s2 s3 s' : S} {te ta tb : TE} {tt : TT} {d : D} {b : Bool} {σ : L2.St} {H F H' F' : Hp} {fp fp' : Fp}
theorem EnvW.wipe (e : EnvW K σ s H F fp) (vs : List Nat) : EnvW K (L2.wipe σ vs) (s.wipe vs) H F fp where
  ex := e.ex
  len := by rw [wipe_length, e.len]; exact (wipeL_length _ _).symm
  sl := fun i x h => by
    rw [show (s.wipe vs).s = wipeL s.s vs from rfl, wipeL_get] at h
    rw [wipe_get]
    by_cases hi : i ∈ vs
    · rw [if_pos hi] at h
      split at h
      · cases h; trivial
      · cases h
    · rw [if_neg hi] at h ⊢
      exact e.sl i x h
  tb := e.tb
  dj := e.dj
  nf := e.nf
  th := e.th
  nt := e.nt
/-- an untracked-by-us object at p (new since H1) is written -/
theorem mut_ext {p : Addr} {o : HO} {l : List V} (h : H p = some (.lst l)) : ExtKeep H (upd H p o) := fun b φ q => by
  rw [upd_ne fun z => by rw [z, h] at q; cases q]; exact q
theorem tabs_mut {T : List (Addr × Str)} {p : Addr} {o : HO} {l : List V} (t : LamX.Tabs T H) (h : H p = some (.lst l)) : LamX.Tabs T (upd H p o) := fun x hx => by
  obtain ⟨ps, h1, h2, h3⟩ := t x hx
  refine ⟨ps, by rw [upd_ne fun z => by rw [z, h] at h1; cases h1]; exact h1, h2, fun pos cv hc => ?_⟩
  obtain ⟨c, e1, e2⟩ := h3 pos cv hc
  exact ⟨c, e1, mut_ext h _ _ e2⟩
theorem EnvW.mut {p : Addr} {o : HO} {l : List V} (e : EnvW K σ s H F fp) (hl : H p = some (.lst l)) (h1 : F p = none) (h2 : ∀ i, ¬ fp i p) : EnvW K σ s (upd H p o) F fp where
  ex := fun a u q => by rw [upd_ne (ne_of_none q h1)]; exact e.ex a u q
  len := e.len
  sl := fun i x h => (e.sl i x h).mono (Ex.refl F) (fun b hb => upd_ne fun z => h2 _ (z ▸ hb)) (mut_ext hl)
  tb := tabs_mut e.tb hl
  dj := e.dj
  nf := e.nf
  th := fun i b h => by obtain ⟨u, q, n⟩ := e.th i b h; exact ⟨u, by rw [upd_ne fun z => h2 _ (z ▸ h)]; exact q, n⟩
  nt := e.nt
theorem Step.mut {p : Addr} {o : HO} (st : Step H F fp H' F' fp') (h : H p = none) : Step H F fp (upd H' p o) F' fp' :=
  ⟨st.ex, st.new, fun b u q x n => by rw [upd_ne (ne_of_none q h)]; exact st.keep b u q x n, st.fpn, fun b φ q => by rw [upd_ne (ne_of_none q h)]; exact st.ext b φ q⟩
def TgV (K : PySem.W.Frag) (vs : List Nat) (g : TG) (s : S) (d : D) (s' : S) : Prop := ∀ σ H F fp v, EnvW K σ s H F fp → At K F v d → ∀ Q : L2.St → Hp → Prop, (∀ σ' fp', EnvW K σ' s' H F fp' → Step H F fp H F fp' → wipe σ' vs = wipe σ vs → Q σ' H) → g v σ H Q
def TgVs (K : PySem.W.Frag) (vs : List Nat) (g : TGs) (s : S) (ds : List D) (s' : S) : Prop := ∀ σ H F fp us, EnvW K σ s H F fp → AtAll K F us ds → ∀ Q : L2.St → Hp → Prop, (∀ σ' fp', EnvW K σ' s' H F fp' → Step H F fp H F fp' → wipe σ' vs = wipe σ vs → Q σ' H) → g us σ H Q
variable {vs : List Nat}
theorem tv_name {i : Nat} (h : i ∈ vs) : TgV K vs (gName i) s d (s.set i (.dat d)) := fun σ H F fp v e a Q q => q _ _ (e.set (i := i) (x := .dat d) ⟨v, rfl, a⟩) Step.drop (wipe_set h)
theorem tv_nil : TgVs K vs gNil s [] s := fun σ H F fp us e a Q q => by cases a; exact ⟨rfl, q σ fp e (Step.refl _ _ _) rfl⟩
theorem tv_cons {g : TG} {gs : TGs} {ds : List D} (h1 : TgV K vs g s d s1) (h2 : TgVs K vs gs s1 ds s2) : TgVs K vs (gCons g gs) s (d :: ds) s2 := fun σ H F fp us e a Q q => by
  cases a with
  | cons a1 t1 => exact ⟨_, _, rfl, h1 σ H F fp _ e a1 _ fun σ' fp' e' st w1 => h2 σ' H F fp' _ e' t1 _ fun σ2 fp2 e2 st2 w2 => q σ2 fp2 e2 (st.trans st2) (w2.trans w1)⟩
theorem tv_tup {gs : TGs} {ds : List D} {n : Nat} (h : TgVs K vs gs s ds s') (hn : ds.length = n) : TgV K vs (gTup K n gs) s (.tuple ds) s' := fun σ H F fp v e a Q q => by
  cases a with
  | tup h1 h2 => exact ⟨_, _, rfl, e.ex.sqT h1, by rw [h2.length]; exact hn, h σ H F fp _ e h2 Q q⟩
/-- the list that a comprehension makes stands at p behind it -/
theorem lc_gen {ds : List D} {wi : TI} {g : TG} (f : Nat → S) (out : Nat → List D) (hw : IterD K wi s ds s1) (h0 : SLe (s1.wipe vs) (f 0)) (ho : out 0 = []) (hz : ds.length ≤ sizeLine)
    (hs : ∀ i d, ds[i]? = some d → ∃ s2 b s3, TgV K vs g (f i) d s2 ∧ EvT K tt s2 b s3 ∧ (b = true → ∃ y s4, Ev K te s3 y s4 ∧ SLe (s4.wipe vs) (f (i + 1)) ∧ out (i + 1) = out i ++ [y]) ∧ (b = false → SLe (s3.wipe vs) (f (i + 1)) ∧ out (i + 1) = out i))
    (e : EnvW K σ s H F fp) (Q : VK) (q : ∀ H1 F1 fp1 p H' F' fp' acc, EnvW K σ s1 H1 F1 fp1 → Step H F fp H1 F1 fp1 → H1 p = none → EnvW K (L2.wipe σ vs) (f ds.length) H' F' fp' → Step H1 F1 fp1 H' F' fp' → H' p = some (.lst acc) → AtAll K F' acc (out ds.length) → F' p = none → (∀ i, ¬ fp' i p) → Q (.ref p) H') : tLc wi g tt te vs σ H Q :=
  hw σ H F fp e _ fun J H1 F1 fp1 e1 st1 hJ p hp => by
    have e0 : EnvW K (L2.wipe σ vs) (f 0) (upd H1 p (.lst [])) F1 fp1 := (((e1.wipe vs).le h0).growH hp)
    have nfp : ∀ i, ¬ fp1 i p := fun i hi => (e1.th i p hi).ne hp rfl
    refine ⟨fun i k H' => k = ds.length - i ∧ i ≤ ds.length ∧ ∃ F' fp' acc, EnvW K (L2.wipe σ vs) (f i) H' F' fp' ∧ Step H1 F1 fp1 H' F' fp' ∧ H' p = some (.lst acc) ∧ AtAll K F' acc (out i) ∧ F' p = none ∧ (∀ i, ¬ fp' i p) ∧ acc.length ≤ i, ⟨ds.length, rfl, Nat.zero_le _, F1, fp1, [], e0, Step.growH hp, upd_same, by rw [ho]; exact .nil, e1.ex.un hp, nfp, Nat.zero_le _⟩, ?_⟩
    rintro i k H' ⟨rfl, hi, F', fp', acc, e', st', hacc, ha, hF, hfp, hlen⟩
    obtain ⟨hgo, hstop⟩ := hJ F' H' i st'.ex e'.ex
    by_cases hil : i < ds.length
    · obtain ⟨d, hd⟩ : ∃ d, ds[i]? = some d := ⟨ds[i], by simp [hil]⟩
      obtain ⟨s2, b, s3, hg, ht, hy, hn⟩ := hs i d hd
      obtain ⟨g1, g2⟩ := hgo d hd
      refine .inr ⟨g1, fun H3 => ∃ F3 fp3 acc, EnvW K (L2.wipe σ vs) (f (i + 1)) H3 F3 fp3 ∧ Step H1 F1 fp1 H3 F3 fp3 ∧ H3 p = some (.lst acc) ∧ AtAll K F3 acc (out (i + 1)) ∧ F3 p = none ∧ (∀ i, ¬ fp3 i p) ∧ acc.length ≤ i + 1, fun H3 ⟨F3, fp3, acc, h1, h2, h3, h4, h5, h6, h7⟩ => ⟨ds.length - (i + 1), by omega, rfl, by omega, F3, fp3, acc, h1, h2, h3, h4, h5, h6, h7⟩, fun x H2 hyl => ?_⟩
      obtain ⟨F2, gr, ax⟩ := g2 x H2 hyl
      have e2 := e'.grow gr
      have st2 := st'.trans (e'.growS gr)
      have hF2 : F2 p = none := gr.new p hF ⟨_, hacc⟩
      have hH2 : H2 p = some (.lst acc) := gr.h _ _ hacc
      refine hg _ H2 F2 fp' x e2 ax _ fun σ4 fp4 e4 st4 w4 => ⟨w4.trans (wipe_wipe σ vs), ?_⟩
      have keepP : ∀ {Ha Fa fa Hb Fb fb}, Step Ha Fa fa Hb Fb fb → Ha p = some (.lst acc) → Fa p = none → (∀ i, ¬ fa i p) → Hb p = some (.lst acc) ∧ Fb p = none ∧ ∀ i, ¬ fb i p := fun {Ha Fa fa Hb Fb fb} st a1 a2 a3 =>
        ⟨st.keep p _ a1 (by intro ps z; cases z) a3, st.new p a2 ⟨_, a1, by intro ps z; cases z⟩ a3, fun i hi => by
          rcases st.fpn i p hi with ⟨j, hj⟩ | h
          · exact a3 j hj
          · exact h ⟨_, a1, by intro ps z; cases z⟩⟩
      obtain ⟨k1, k2, k3⟩ := keepP st4 hH2 hF2 hfp
      refine ht σ4 H2 F2 fp4 e4 _ fun H5 F5 fp5 e5 st5 => ?_
      obtain ⟨l1, l2, l3⟩ := keepP st5 k1 k2 k3
      cases b with
      | true =>
        show te σ4 H5 _
        obtain ⟨y, s4, hye, hle, hout⟩ := hy rfl
        refine hye σ4 H5 F5 fp5 e5 _ fun v H6 F6 fp6 e6 st6 a6 => ?_
        obtain ⟨m1, m2, m3⟩ := keepP st6 l1 l2 l3
        refine ⟨acc, m1, by omega, F6, fp6, acc ++ [v], ?_, ?_, upd_same, ?_, m2, m3, by simp; omega⟩
        · have z := (e6.wipe vs).le hle
          rw [w4, wipe_wipe] at z
          exact z.mut m1 m2 m3
        · exact (((st2.trans st4).trans st5).trans st6).mut hp
        · rw [hout]
          exact (ha.ex ((gr.f.trans st4.ex).trans (st5.ex.trans st6.ex))).snoc a6
      | false =>
        obtain ⟨hle, hout⟩ := hn rfl
        show ∃ F3 fp3 acc, _
        refine ⟨F5, fp5, acc, ?_, (st2.trans st4).trans st5, l1, ?_, l2, l3, by omega⟩
        · have z := (e5.wipe vs).le hle
          rw [w4, wipe_wipe] at z
          exact z
        · rw [hout]
          exact ha.ex ((gr.f.trans st4.ex).trans st5.ex)
    · have hie : i = ds.length := by omega
      subst hie
      exact .inl ⟨hstop rfl, q H1 F1 fp1 p H' F' fp' acc e1 st1 hp e' st' hacc ha hF hfp⟩
/-- what comes back behind a comprehension: its own names are as before -/
def Back (vs : List Nat) (s1 sn s' : S) : Prop := s'.s.length = s1.s.length ∧ (∀ (i : Nat) (x : Sl), s'.s[i]? = some x → (i ∉ vs ∧ sn.s[i]? = some x) ∨ x = .unk ∨ (i ∈ vs ∧ s1.s[i]? = some x ∧ ∃ d, x = .dat d)) ∧ s'.g = sn.g
theorem EnvW.back {H1 F1 : Hp} {fp1 : Fp} {sn : S} (e1 : EnvW K σ s1 H1 F1 fp1) (hF : Ex F1 F) (e : EnvW K (L2.wipe σ vs) sn H F fp) (bk : Back vs s1 sn s') : EnvW K σ s' H F fp where
  ex := e.ex
  len := e1.len.trans bk.1.symm
  sl := fun i x h => by
    rcases bk.2.1 i x h with ⟨hi, q⟩ | rfl | ⟨_, q, d, rfl⟩
    · have z := e.sl i x q
      rw [wipe_get, if_neg hi] at z
      exact z
    · trivial
    · obtain ⟨v, h1, h2⟩ := e1.sl i _ q
      exact ⟨v, h1, h2.ex hF⟩
  tb := by rw [bk.2.2]; exact e.tb
  dj := e.dj
  nf := e.nf
  th := e.th
  nt := e.nt
theorem ev_lcG {ds : List D} {wi : TI} {g : TG} (f : Nat → S) (out : Nat → List D) (hw : IterD K wi s ds s1) (h0 : SLe (s1.wipe vs) (f 0)) (ho : out 0 = []) (hz : ds.length ≤ sizeLine)
    (hs : ∀ i d, ds[i]? = some d → ∃ s2 b s3, TgV K vs g (f i) d s2 ∧ EvT K tt s2 b s3 ∧ (b = true → ∃ y s4, Ev K te s3 y s4 ∧ SLe (s4.wipe vs) (f (i + 1)) ∧ out (i + 1) = out i ++ [y]) ∧ (b = false → SLe (s3.wipe vs) (f (i + 1)) ∧ out (i + 1) = out i))
    (bk : Back vs s1 (f ds.length) s') : Ev K (tLc wi g tt te vs) s (.list (out ds.length)) s' := fun σ H F fp e Q q =>
  lc_gen f out hw h0 ho hz hs e Q fun H1 F1 fp1 p H' F' fp' acc e1 st1 hp e' st' hacc ha hF hfp => by
    have eF : Ex F' (upd F' p (.lst acc)) := Ex.new hF
    have e2 : EnvW K σ s' H' F' fp' := e1.back st'.ex e' bk
    refine q (.ref p) H' (upd F' p (.lst acc)) fp' ⟨fun a u z => ?_, e2.len, fun i x h => (e2.sl i x h).mono eF (fun _ _ => rfl) (fun _ _ h => h), e2.tb, e2.dj, fun i b h => ?_, e2.th, fun b o z => ?_⟩
      ⟨(st1.trans st').ex.trans eF, fun b h1 h2 h3 => ?_, (st1.trans st').keep, (st1.trans st').fpn, (st1.trans st').ext⟩ (.lst upd_same (ha.ex eF))
    · by_cases y : a = p
      · subst y; rw [upd_same] at z; cases z; exact hacc
      · rw [upd_ne y] at z; exact e2.ex a u z
    · rw [upd_ne (fun (z : b = p) => hfp i (z ▸ h))]; exact e2.nf i b h
    · by_cases y : b = p
      · subst y; rw [upd_same] at z; cases z; intro ps w; cases w
      · rw [upd_ne y] at z; exact e2.nt b o z
    · have : b ≠ p := fun z => by
        subst z
        exact (st1.live h2 h3).ne hp rfl
      rw [upd_ne this]
      exact (st1.trans st').new b h1 h2 h3
theorem eo_lcG {ds : List D} {wi : TI} {g : TG} (f : Nat → S) (out : Nat → List D) (hw : IterD K wi s ds s1) (h0 : SLe (s1.wipe vs) (f 0)) (ho : out 0 = []) (hz : ds.length ≤ sizeLine)
    (hs : ∀ i d, ds[i]? = some d → ∃ s2 b s3, TgV K vs g (f i) d s2 ∧ EvT K tt s2 b s3 ∧ (b = true → ∃ y s4, Ev K te s3 y s4 ∧ SLe (s4.wipe vs) (f (i + 1)) ∧ out (i + 1) = out i ++ [y]) ∧ (b = false → SLe (s3.wipe vs) (f (i + 1)) ∧ out (i + 1) = out i))
    (bk : Back vs s1 (f ds.length) s') : EvO K (tLc wi g tt te vs) s (lstR K none (out ds.length)) s' := fun σ H F fp e Q q =>
  lc_gen f out hw h0 ho hz hs e Q fun H1 F1 fp1 p H' F' fp' acc e1 st1 hp e' st' hacc ha hF hfp => by
    refine q (.ref p) H' F' fp' (fun b => b = p) (e1.back st'.ex e' bk) (st1.trans st') ⟨p, acc, rfl, (fun _ z => nomatch z), fun _ => Iff.rfl, hacc, ha⟩ ⟨fun b h => h ▸ hF, fun b i h1 h2 => hfp i (h1 ▸ h2), fun b h => ⟨_, h ▸ hacc, by intro ps z; cases z⟩, fun b h => ?_⟩
    subst h
    by_cases y : ∃ j, fp j b
    · exact .inl y
    · exact .inr fun l => (st1.live l fun i hi => y ⟨i, hi⟩).ne hp rfl
/-- none of the slots vs holds an owned thing -/
def NoRes (s : S) (vs : List Nat) : Prop := ∀ (i : Nat) (x : Sl), i ∈ vs → s.s[i]? = some x → x = .unk ∨ ∃ d, x = .dat d
theorem back_same (h : NoRes s1 vs) : Back vs s1 (s1.wipe vs) s1 := ⟨rfl, fun i x q => by
  by_cases hi : i ∈ vs
  · rcases h i x hi q with r | r
    · exact .inr (.inl r)
    · exact .inr (.inr ⟨hi, q, r⟩)
  · refine .inl ⟨hi, ?_⟩
    rw [show (s1.wipe vs).s = wipeL s1.s vs from rfl, wipeL_get, if_neg hi]
    exact q, rfl⟩
/-- nothing but the list comes of it -/
theorem ev_lc {ds : List D} {wi : TI} {g : TG} (p : D → Bool) (y : D → D) (hw : IterD K wi s ds s1) (hz : ds.length ≤ sizeLine) (hr : NoRes s1 vs)
    (hs : ∀ d, d ∈ ds → ∃ s2, TgV K vs g (s1.wipe vs) d s2 ∧ SLe (s2.wipe vs) (s1.wipe vs) ∧ EvT K tt s2 (p d) s2 ∧ (p d = true → Ev K te s2 (y d) s2)) : Ev K (tLc wi g tt te vs) s (.list ((ds.filter p).map y)) s1 := by
  have := ev_lcG (K := K) (te := te) (tt := tt) (g := g) (vs := vs) (s' := s1) (fun _ => s1.wipe vs) (fun i => ((ds.take i).filter p).map y) hw (SLe.refl _) (by simp) hz (fun i d hd => ?_) (back_same hr)
  · simpa using this
  · obtain ⟨s2, h1, h2, h3, h4⟩ := hs d (List.mem_of_getElem? hd)
    have tk : ds.take (i + 1) = ds.take i ++ [d] := by rw [List.take_add_one, hd]; rfl
    refine ⟨s2, p d, s2, h1, h3, fun hb => ⟨y d, s2, h4 hb, h2, ?_⟩, fun hb => ⟨h2, ?_⟩⟩
    · simp [tk, List.filter_append, hb]
    · simp [tk, List.filter_append, hb]
theorem eo_lc {ds : List D} {wi : TI} {g : TG} (p : D → Bool) (y : D → D) (hw : IterD K wi s ds s1) (hz : ds.length ≤ sizeLine) (hr : NoRes s1 vs)
    (hs : ∀ d, d ∈ ds → ∃ s2, TgV K vs g (s1.wipe vs) d s2 ∧ SLe (s2.wipe vs) (s1.wipe vs) ∧ EvT K tt s2 (p d) s2 ∧ (p d = true → Ev K te s2 (y d) s2)) : EvO K (tLc wi g tt te vs) s (lstR K none ((ds.filter p).map y)) s1 := by
  have := eo_lcG (K := K) (te := te) (tt := tt) (g := g) (vs := vs) (s' := s1) (fun _ => s1.wipe vs) (fun i => ((ds.take i).filter p).map y) hw (SLe.refl _) (by simp) hz (fun i d hd => ?_) (back_same hr)
  · simpa using this
  · obtain ⟨s2, h1, h2, h3, h4⟩ := hs d (List.mem_of_getElem? hd)
    have tk : ds.take (i + 1) = ds.take i ++ [d] := by rw [List.take_add_one, hd]; rfl
    refine ⟨s2, p d, s2, h1, h3, fun hb => ⟨y d, s2, h4 hb, h2, ?_⟩, fun hb => ⟨h2, ?_⟩⟩
    · simp [tk, List.filter_append, hb]
    · simp [tk, List.filter_append, hb]
theorem et_yes : EvT K tYes s true s := fun σ H F fp e Q q => q H F fp e (Step.refl _ _ _)
end
end DL

namespace DL
open PySem PySem.Spec PyProof.Rows L2
/-! ### functions: R tells what comes of what -/
def FOk (K : PySem.W.Frag) (E : XK) (σ : L2.St) (H F : Hp) (fp : Fp) (Q : VK) : Out → Prop
  | .rt d s' => ∀ v H' F' fp', EnvW K σ s' H' F' fp' → Step H F fp H' F' fp' → At K F' v d → Q v H'
  | .ro r s' => ∀ v H' F' fp' P, EnvW K σ s' H' F' fp' → Step H F fp H' F' fp' → r.ok F' H' P (some (some v)) → Own H fp H' F' fp' P → Q v H'
  | .ex C fl d s' => ∀ dd v H' F' fp', EnvW K σ s' H' F' fp' → Step H F fp H' F' fp' → H' dd = some (.xd [(fl, v)]) → At K F' v d → E (.ref C) (some dd) H'
  | _ => False
abbrev FR := S → Out → Prop
def spF (K : PySem.W.Frag) (R : FR) : Sp := fun vs H Q E => ∃ s F fp o, EnvW K (vs.map some) s H F fp ∧ R s o ∧ FOk K E (vs.map some) H F fp Q o
/-- an owned thing that is told by its value -/
def Pin (r : Rs) (v : V) : Prop := ∀ {F H : Hp} {P : Addr → Prop} {sv : Option (Option V)}, r.ok F H P sv → r.ok F H P (some (some v))
theorem pin_lst {K : PySem.W.Frag} {v : V} {ds : List D} : Pin (lstR K (some v) ds) v := fun {F H P sv} ⟨a, vs, h1, h2, h3, h4, h5⟩ => ⟨a, vs, by rw [h2 v rfl], h2, h3, h4, h5⟩
section
variable {K : PySem.W.Frag} {E : XK} {s s1 s2 s' : S} {te ta tb : TE} {d : D} {σ : L2.St} {H F H' F' H1 F1 : Hp} {fp fp' fp1 fpc fpc' : Fp}
/-- the state at a def's entry: its other names hold nothing -/
def S.more (s : S) (m : Nat) : S := ⟨s.s ++ List.replicate m .unk, s.g⟩
theorem EnvW.enter {N : List Str} {vs : List V} (e : EnvW K (vs.map some) s H F fp) (hl : vs.length ≤ N.length) : EnvW K (L2.start N vs) (s.more (N.length - vs.length)) H F fp where
  ex := e.ex
  len := by
    have := e.len
    simp only [List.length_map] at this
    simp [L2.start, S.more, this]
  sl := fun i x h => by
    have hlen := e.len
    simp only [List.length_map] at hlen
    by_cases hi : i < s.s.length
    · have h' : s.s[i]? = some x := by
        rw [← h]; exact (List.getElem?_append_left hi).symm
      have z := e.sl i x h'
      have : (L2.start N vs)[i]? = (vs.map some)[i]? := by
        unfold L2.start
        rw [List.getElem?_append_left (by simp; omega)]
      rw [this]; exact z
    · have h' : x = .unk := by
        rw [show (s.more (N.length - vs.length)).s = s.s ++ List.replicate (N.length - vs.length) .unk from rfl, List.getElem?_append_right (by omega)] at h
        have := List.mem_of_getElem? h
        exact (List.mem_replicate.mp this).2
      subst h'; trivial
  tb := e.tb
  dj := e.dj
  nf := e.nf
  th := e.th
  nt := e.nt
/-- what stands behind a body, as its caller sees it -/
structure Leave (vs : List V) (s0 s1 s' : S) : Prop where
  len : s'.s.length = s0.s.length
  sl : ∀ (i : Nat) (x : Sl), s'.s[i]? = some x → x = .unk ∨ (∃ d, x = .dat d ∧ s0.s[i]? = some x) ∨ ∃ r v, x = .res r ∧ s1.s[i]? = some x ∧ vs[i]? = some v ∧ Pin r v
  g : s'.g = s1.g
theorem EnvW.leave {vs : List V} (e0 : EnvW K (vs.map some) s H F fp) (l : Leave vs s s1 s') (e : EnvW K σ s1 H' F' fp') (hF : Ex F F') : EnvW K (vs.map some) s' H' F' fp' where
  ex := e.ex
  len := e0.len.trans l.len.symm
  sl := fun i x h => by
    rcases l.sl i x h with rfl | ⟨d, rfl, h0⟩ | ⟨r, v, rfl, h1, hv, hp⟩
    · trivial
    · obtain ⟨v, h1, h2⟩ := e0.sl i _ h0
      exact ⟨v, h1, h2.ex hF⟩
    · have z : (vs.map some)[i]? = some (some v) := by rw [List.getElem?_map, hv]; rfl
      rw [z]
      exact hp (e.sl i _ h1)
  tb := by rw [l.g]; exact e.tb
  dj := e.dj
  nf := e.nf
  th := e.th
  nt := e.nt
/-- the outcome of a body as its caller sees it -/
inductive Ret (vs : List V) (s0 : S) : Out → Out → Prop
  | nx {s1 s' : S} : Leave vs s0 s1 s' → Ret vs s0 (.nx s1) (.rt .none s')
  | rt {d : D} {s1 s' : S} : Leave vs s0 s1 s' → Ret vs s0 (.rt d s1) (.rt d s')
  | ro {r : Rs} {s1 s' : S} : Leave vs s0 s1 s' → Ret vs s0 (.ro r s1) (.ro r s')
  | ex {C : Addr} {fl : Str} {d : D} {s1 s' : S} : Leave vs s0 s1 s' → Ret vs s0 (.ex C fl d s1) (.ex C fl d s')
/-- a body that runs keeps its promise -/
theorem run_body {N : List Str} {vs : List V} {t : TS} {R : FR} {Q : VK} (hl : vs.length ≤ N.length) (h : spF K R vs H Q E)
    (hr : ∀ s o, R s o → s.s.length = vs.length → (∀ F fp, EnvW K (vs.map some) s H F fp → ∃ o1, Run K E t (s.more (N.length - vs.length)) o1 ∧ Ret vs s o1 o)) : t { nx := fun _ H' => Q .non H', rt := Q } (L2.start N vs) H := by
  obtain ⟨s, F, fp, o, e, hR, hq⟩ := h
  have hlen : s.s.length = vs.length := by have := e.len; simp at this; exact this.symm
  obtain ⟨o1, h1, h2⟩ := hr s o hR hlen F fp e
  refine h1 _ H F fp (e.enter hl) _ ?_
  cases h2 with
  | nx l => exact fun σ' H' F' fp' e' st => hq .non H' F' fp' (e.leave l e' st.ex) st .non
  | rt l => exact fun σ' v H' F' fp' e' st a => hq v H' F' fp' (e.leave l e' st.ex) st a
  | ro l => exact fun σ' v H' F' fp' P e' st a o => hq v H' F' fp' P (e.leave l e' st.ex) st a o
  | ex l => exact fun σ' dd v H' F' fp' e' st a b => hq dd v H' F' fp' (e.leave l e' st.ex) st a b
/-- data alone -/
theorem leave_dat {vs : List V} {ds : List D} {g : List (Addr × Str)} {s1 : S} (hg : s1.g = g) : Leave vs ⟨ds.map .dat, g⟩ s1 ⟨ds.map .dat, g⟩ := ⟨rfl, fun i x h => .inr (.inl (by
  have hx : ∃ d, x = .dat d := by
    rw [List.getElem?_map] at h
    cases q : ds[i]? with
    | none => rw [q] at h; cases h
    | some d => rw [q] at h; exact ⟨d, (Option.some.inj h).symm⟩
  obtain ⟨d, rfl⟩ := hx
  exact ⟨d, rfl, h⟩)), hg.symm⟩
/-! ### the frame around a call -/
theorem frame {J : Ix → Prop} [DecidablePred J] {σc : L2.St} {sc' : S} (ρ : Ix → Ix) (e1 : EnvW K σ s1 H1 F1 fp1) (hρ : ∀ j k, J j → J k → ρ j = ρ k → j = k) (hP : ∀ i b, fpc i b → ∃ j, J j ∧ fp1 j b) (ec : EnvW K σc sc' H' F' fpc') (st : Step H1 F1 fpc H' F' fpc')
    (hlen : s2.s.length = s1.s.length) (hs : ∀ (i : Nat) (x : Sl), s2.s[i]? = some x → (J (.inl i) → SlOk K F' H' (fpc' (ρ (.inl i))) σ[i]? x) ∧ (¬ J (.inl i) → s1.s[i]? = some x))
    (hg : s2.g = sc'.g) :
    EnvW K σ s2 H' F' (fun j => if J j then fpc' (ρ j) else fp1 j) ∧ Step H1 F1 fp1 H' F' (fun j => if J j then fpc' (ρ j) else fp1 j) := by
  have notc : ∀ j b, ¬ J j → fp1 j b → ∀ i, ¬ fpc i b := fun j b hj hb i hi => by
    obtain ⟨k, hk, hkb⟩ := hP i b hi
    exact e1.dj j k b (fun z => hj (z ▸ hk)) hb hkb
  have keep : ∀ j b, ¬ J j → fp1 j b → H' b = H1 b := fun j b hj hb => by
    obtain ⟨o, q, n⟩ := e1.th j b hb
    rw [q, st.keep b o q n (notc j b hj hb)]
  have nodj : ∀ j b k, ¬ J j → fp1 j b → ¬ fpc' k b := fun j b k hj hb hk => by
    rcases st.fpn k b hk with ⟨m, hm⟩ | h
    · exact notc j b hj hb m hm
    · exact h (e1.th j b hb)
  refine ⟨⟨ec.ex, e1.len.trans hlen.symm, fun i x h => ?_, by rw [hg]; exact ec.tb, fun j k b hjk h1 h2 => ?_, fun j b h => ?_, fun j b h => ?_, ec.nt⟩, ⟨st.ex, fun b h1 h2 h3 => st.new b h1 h2 fun i hi => ?_, fun b o h1 n h2 => st.keep b o h1 n fun i hi => ?_, fun j b h => ?_, st.ext⟩⟩
  · by_cases hj : J (.inl i)
    · simp only [hj, if_true]; exact (hs i x h).1 hj
    · simp only [hj, if_false]
      exact (e1.sl i x ((hs i x h).2 hj)).mono st.ex (fun b hb => keep _ b hj hb) st.ext
  · by_cases hj : J j <;> by_cases hk : J k <;> simp only [hj, hk, if_true, if_false] at h1 h2
    · exact ec.dj _ _ b (fun z => hjk (hρ j k hj hk z)) h1 h2
    · exact nodj k b _ hk h2 h1
    · exact nodj j b _ hj h1 h2
    · exact e1.dj j k b hjk h1 h2
  · by_cases hj : J j <;> simp only [hj, if_true, if_false] at h
    · exact ec.nf _ b h
    · exact st.new b (e1.nf j b h) (e1.th j b h) (notc j b hj h)
  · by_cases hj : J j <;> simp only [hj, if_true, if_false] at h
    · exact ec.th _ b h
    · exact st.live (e1.th j b h) (notc j b hj h)
  · obtain ⟨j, _, hb⟩ := hP i b hi; exact h3 j hb
  · obtain ⟨j, _, hb⟩ := hP i b hi; exact h2 j hb
  · by_cases hj : J j <;> simp only [hj, if_true, if_false] at h
    · rcases st.fpn _ b h with ⟨i, hi⟩ | h
      · obtain ⟨k, _, hk⟩ := hP i b hi; exact .inl ⟨k, hk⟩
      · exact .inr h
    · exact .inl ⟨j, h⟩
abbrev noF : Fp := fun _ _ => False
theorem env_dat {vs : List V} {ds : List D} (e1 : EnvW K σ s1 H F fp1) (a : AtAll K F vs ds) : EnvW K (vs.map some) ⟨ds.map .dat, s1.g⟩ H F noF where
  ex := e1.ex
  len := by simp [a.length]
  sl := fun i x h => by
    rw [List.getElem?_map] at h
    cases q : ds[i]? with
    | none => rw [q] at h; cases h
    | some d =>
      rw [q] at h
      obtain ⟨v, hv, hd⟩ := a.get q
      cases h
      exact ⟨v, by rw [List.getElem?_map, hv]; rfl, hd⟩
  tb := e1.tb
  dj := fun _ _ _ _ h => h.elim
  nf := fun _ _ h => h.elim
  th := fun _ _ h => h.elim
  nt := e1.nt
/-! ### calls with data -/
theorem frame0 {σc : L2.St} {sc' : S} (e1 : EnvW K σ s1 H1 F1 fp1) (ec : EnvW K σc sc' H' F' fpc') (st : Step H1 F1 noF H' F' fpc') (hg : s1.g = sc'.g) : EnvW K σ s1 H' F' fp1 ∧ Step H1 F1 fp1 H' F' fp1 := by
  have h := frame (J := fun _ => False) (fun j => j) (s2 := s1) e1 (fun _ _ z => z.elim) (fun _ _ h => h.elim) ec st rfl (fun i x h => ⟨fun z => z.elim, fun _ => h⟩) hg
  simpa using h
theorem ev_call {R : FR} {ta : TA} {ds : List D} (ha : EvA K ta s ds s1) (hR : R ⟨ds.map .dat, s1.g⟩ (.rt d ⟨ds.map .dat, s1.g⟩)) : Ev K (tCall (spF K R) [] E ta) s d s1 := fun σ H F fp e Q q =>
  ha σ H F fp e _ fun vs H1 F1 fp1 e1 st1 a1 => by
    rw [List.append_nil]
    refine ⟨_, F1, noF, _, env_dat e1 a1, hR, fun v H' F' fp' e' st a => ?_⟩
    obtain ⟨e2, st2⟩ := frame0 e1 e' st rfl
    exact q v H' F' fp1 e2 (st1.trans st2) a
theorem eo_call {R : FR} {ta : TA} {ds : List D} {r : Rs} (ha : EvA K ta s ds s1) (hR : R ⟨ds.map .dat, s1.g⟩ (.ro r ⟨ds.map .dat, s1.g⟩)) : EvO K (tCall (spF K R) [] E ta) s r s1 := fun σ H F fp e Q q =>
  ha σ H F fp e _ fun vs H1 F1 fp1 e1 st1 a1 => by
    rw [List.append_nil]
    refine ⟨_, F1, noF, _, env_dat e1 a1, hR, fun v H' F' fp' P e' st a o => ?_⟩
    obtain ⟨e2, st2⟩ := frame0 e1 e' st rfl
    refine q v H' F' fp1 P e2 (st1.trans st2) a ⟨o.nf, fun b i hb hi => ?_, o.th, fun b hb => ?_⟩
    · rcases o.new b hb with ⟨j, hj⟩ | hn
      · exact hj
      · exact hn (e1.th i b hi)
    · rcases o.new b hb with ⟨j, hj⟩ | hn
      · exact hj.elim
      · by_cases y : ∃ j, fp j b
        · exact .inl y
        · exact .inr fun l => hn (st1.live l fun i hi => y ⟨i, hi⟩)
/-- by keywords -/
theorem ev_callK {R : FR} {ta tk : TA} {gV : List V → List V → List V} {ds es as : List D} (ha : EvA K ta s ds s1) (hk : EvA K tk s1 es s2) (hg : ∀ (F : Hp) vs zs, AtAll K F vs ds → AtAll K F zs es → AtAll K F (gV vs zs) as) (hR : R ⟨as.map .dat, s2.g⟩ (.rt d ⟨as.map .dat, s2.g⟩)) : Ev K (tCallK (spF K R) gV E ta tk) s d s2 := fun σ H F fp e Q q =>
  ha σ H F fp e _ fun vs H1 F1 fp1 e1 st1 a1 => hk σ H1 F1 fp1 e1 _ fun zs H2 F2 fp2 e2 st2 a2 => by
    refine ⟨_, F2, noF, _, env_dat e2 (hg F2 vs zs (a1.ex st2.ex) a2), hR, fun v H' F' fp' e' st a => ?_⟩
    obtain ⟨e3, st3⟩ := frame0 e2 e' st rfl
    exact q v H' F' fp2 e3 ((st1.trans st2).trans st3) a
/-- a call that raises -/
def EvR (K : PySem.W.Frag) (E : XK) (te : TE) (s : S) (C : Addr) (fl : Str) (d : D) (s' : S) : Prop := ∀ σ H F fp, EnvW K σ s H F fp → ∀ Q : VK, (∀ dd v H' F' fp', EnvW K σ s' H' F' fp' → Step H F fp H' F' fp' → H' dd = some (.xd [(fl, v)]) → At K F' v d → E (.ref C) (some dd) H') → te σ H Q
theorem er_call {R : FR} {ta : TA} {ds : List D} {C : Addr} {fl : Str} (ha : EvA K ta s ds s1) (hR : R ⟨ds.map .dat, s1.g⟩ (.ex C fl d ⟨ds.map .dat, s1.g⟩)) : EvR K E (tCall (spF K R) [] E ta) s C fl d s1 := fun σ H F fp e Q q =>
  ha σ H F fp e _ fun vs H1 F1 fp1 e1 st1 a1 => by
    rw [List.append_nil]
    refine ⟨_, F1, noF, _, env_dat e1 a1, hR, fun dd v H' F' fp' e' st a b => ?_⟩
    obtain ⟨e2, st2⟩ := frame0 e1 e' st rfl
    exact q dd v H' F' fp1 e2 (st1.trans st2) a b
theorem run_dropX {C : Addr} {fl : Str} (h : EvR K E te s C fl d s1) : Run K E (tDrop te) s (.ex C fl d s1) := fun σ H F fp e Ed q => h σ H F fp e _ fun dd v H' F' fp' e' st a b => q σ dd v H' F' fp' e' st a b
theorem run_retX {C : Addr} {fl : Str} (h : EvR K E te s C fl d s1) : Run K E (tRet te) s (.ex C fl d s1) := fun σ H F fp e Ed q => h σ H F fp e _ fun dd v H' F' fp' e' st a b => q σ dd v H' F' fp' e' st a b
/-- raise X(e), the wish E of the def -/
theorem run_raise {C : Addr} {fl : Str} {W : WX} {ta : TA} (h : EvA K ta s [d] s1) (hW : ∀ cls dd σ H, E cls dd H → W cls dd σ H) : Run K E (BX.tRaiseX C fl W ta) s (.ex C fl d s1) := fun σ H F fp e Ed q =>
  h σ H F fp e _ fun vs H1 F1 fp1 e1 st1 a1 => by
    cases a1 with
    | @cons v _ _ _ x y =>
      cases y
      refine ⟨v, rfl, fun dd hd => hW _ _ _ _ (q σ dd v _ F1 fp1 (e1.growH hd) (st1.trans (Step.growH hd)) upd_same x)⟩
/-! ### the first argument an owned list -/
theorem callL {R : FR} {tr : TA} {ds : List D} {i : Nat} {ov ov' : Option V} {es es1 : List D} {o : V → Out} {Q : VK} (e : EnvW K σ s H F fp) (hi : s.s[i]? = some (.res (lstR K ov es))) (ha : EvA K tr s ds s1) (hi1 : s1.s[i]? = some (.res (lstR K ov' es1)))
    (hR : ∀ v, R ⟨.res (lstR K (some v) es1) :: ds.map .dat, s1.g⟩ (o v))
    (hq : ∀ a vs H1 F1 fp1, EnvW K σ s1 H1 F1 fp1 → Step H F fp H1 F1 fp1 → σ[i]? = some (some (.ref a)) → (∀ v, ov' = some v → v = .ref a) → FOk K E ((.ref a :: vs).map some) H1 F1 (fun j b => j = .inl 0 ∧ b = a) Q (o (.ref a)) ∧ fp1 (.inl i) a) :
    tCall (spF K R) [] E (tCons (tVar i) tr) σ H Q := by
  obtain ⟨a, vs0, h1, _⟩ := e.own hi
  refine ⟨.ref a, h1, ha σ H F fp e _ fun vs H1 F1 fp1 e1 st1 a1 => ?_⟩
  show spF K R ((V.ref a :: vs) ++ []) H1 Q E
  rw [List.append_nil]
  obtain ⟨a', vs1, h1', h2', h3', h4', h5'⟩ := e1.sl i _ hi1
  rw [h1] at h1'
  cases h1'
  obtain ⟨hq1, hfa⟩ := hq a vs H1 F1 fp1 e1 st1 h1 h2'
  refine ⟨⟨.res (lstR K (some (.ref a)) es1) :: ds.map .dat, s1.g⟩, F1, fun j b => j = .inl 0 ∧ b = a, _, ⟨e1.ex, by simp [a1.length], fun k x hx => ?_, e1.tb, fun j k b hjk h1 h2 => hjk (h1.1.trans h2.1.symm), fun j b h => by rw [h.2]; exact e1.nf _ a hfa, fun j b h => by rw [h.2]; exact e1.th _ a hfa, e1.nt⟩, hR (.ref a), hq1⟩
  cases k with
  | zero =>
    simp at hx
    subst hx
    exact ⟨a, vs1, rfl, fun v hv => (Option.some.inj hv).symm, fun b => ⟨fun z => z.2, fun z => ⟨rfl, z⟩⟩, h4', h5'⟩
  | succ k =>
    simp at hx
    obtain ⟨d, hd, rfl⟩ := hx
    obtain ⟨v, hv, hdv⟩ := a1.get hd
    exact ⟨v, by simp [hv], hdv⟩
theorem frameL {i : Nat} {a : Addr} {vs : List V} {ov' : Option V} {es1 es2 : List D} {ts : List Sl} (e1 : EnvW K σ s1 H1 F1 fp1) (hi1 : s1.s[i]? = some (.res (lstR K ov' es1))) (hσ : σ[i]? = some (some (.ref a))) (hov : ∀ v, ov' = some v → v = .ref a) (hfa : fp1 (.inl i) a)
    (ec : EnvW K ((.ref a :: vs).map some) ⟨.res (lstR K (some (.ref a)) es2) :: ts, s1.g⟩ H' F' fpc') (st : Step H1 F1 (fun j b => j = .inl 0 ∧ b = a) H' F' fpc') : ∃ fp2, EnvW K σ (s1.set i (.res (lstR K ov' es2))) H' F' fp2 ∧ Step H1 F1 fp1 H' F' fp2 ∧ ∀ j b, fp2 j b → fp1 j b ∨ fpc' (.inl 0) b := by
  have hil : i < s1.s.length := (List.getElem?_eq_some_iff.mp hi1).1
  have h := frame (J := fun j => j = .inl i) (fun _ => .inl 0) (s2 := s1.set i (.res (lstR K ov' es2))) e1 (fun j k hj hk _ => hj.trans hk.symm) (fun (j : Ix) (b : Addr) (h : j = .inl 0 ∧ b = a) => ⟨.inl i, rfl, h.2 ▸ hfa⟩) ec st (by simp [S.set]) (fun k x hx => ⟨fun hk => ?_, fun hk => ?_⟩) rfl
  · refine ⟨_, h.1, h.2, fun j b hb => ?_⟩
    by_cases hj : j = .inl i
    · simp only [hj, if_true] at hb; exact .inr hb
    · simp only [hj, if_false] at hb; exact .inl hb
  · cases hk
    have z : (s1.set i (.res (lstR K ov' es2))).s[i]? = some (.res (lstR K ov' es2)) := List.getElem?_set_self hil
    rw [z] at hx
    cases hx
    obtain ⟨a', vs', q1, q2, q3, q4, q5⟩ := ec.sl 0 _ (by simp; rfl)
    have ea : a' = a := by
      have := q2 (.ref a) rfl
      cases this; rfl
    subst ea
    exact ⟨a', vs', hσ, hov, q3, q4, q5⟩
  · have : k ≠ i := fun z => hk (by rw [z])
    rw [show (s1.set i (.res (lstR K ov' es2))).s = s1.s.set i (.res (lstR K ov' es2)) from rfl, List.getElem?_set_ne (Ne.symm this)] at hx
    exact hx
/-- f(xs, ..), xs an owned list that f may change -/
theorem ev_callL {R : FR} {tr : TA} {ds : List D} {i : Nat} {ov ov' : Option V} {es es1 es2 : List D} (hi : s.s[i]? = some (.res (lstR K ov es))) (ha : EvA K tr s ds s1) (hi1 : s1.s[i]? = some (.res (lstR K ov' es1)))
    (hR : ∀ v, R ⟨.res (lstR K (some v) es1) :: ds.map .dat, s1.g⟩ (.rt d ⟨.res (lstR K (some v) es2) :: ds.map .dat, s1.g⟩)) : Ev K (tCall (spF K R) [] E (tCons (tVar i) tr)) s d (s1.set i (.res (lstR K ov' es2))) := fun σ H F fp e Q q => by
  refine callL e hi ha hi1 hR fun a vs H1 F1 fp1 e1 st1 hσ hov => ?_
  have hfa : fp1 (.inl i) a := by
    obtain ⟨a', _, h1, h2, _⟩ := e1.own hi1
    rw [hσ] at h1; cases h1
    exact (h2 a).mpr rfl
  refine ⟨fun v H' F' fp' e' st av => ?_, hfa⟩
  obtain ⟨fp2, e2, st2, _⟩ := frameL e1 hi1 hσ hov hfa e' st
  exact q v H' F' fp2 e2 (st1.trans st2) av
theorem er_callL {R : FR} {tr : TA} {ds : List D} {i : Nat} {ov ov' : Option V} {es es1 es2 : List D} {C : Addr} {fl : Str} (hi : s.s[i]? = some (.res (lstR K ov es))) (ha : EvA K tr s ds s1) (hi1 : s1.s[i]? = some (.res (lstR K ov' es1)))
    (hR : ∀ v, R ⟨.res (lstR K (some v) es1) :: ds.map .dat, s1.g⟩ (.ex C fl d ⟨.res (lstR K (some v) es2) :: ds.map .dat, s1.g⟩)) : EvR K E (tCall (spF K R) [] E (tCons (tVar i) tr)) s C fl d (s1.set i (.res (lstR K ov' es2))) := fun σ H F fp e Q q => by
  refine callL e hi ha hi1 hR fun a vs H1 F1 fp1 e1 st1 hσ hov => ?_
  have hfa : fp1 (.inl i) a := by
    obtain ⟨a', _, h1, h2, _⟩ := e1.own hi1
    rw [hσ] at h1; cases h1
    exact (h2 a).mpr rfl
  refine ⟨fun dd v H' F' fp' e' st av bv => ?_, hfa⟩
  obtain ⟨fp2, e2, st2, _⟩ := frameL e1 hi1 hσ hov hfa e' st
  exact q dd v H' F' fp2 e2 (st1.trans st2) av bv
/-- what the caller of a def with one owned list sees behind it -/
theorem leave_lst {v : V} {vs : List V} {es es2 : List D} {ds : List D} {g : List (Addr × Str)} {s1 : S} (hg : s1.g = g) (h : s1.s[0]? = some (.res (lstR K (some v) es2))) : Leave (v :: vs) ⟨.res (lstR K (some v) es) :: ds.map .dat, g⟩ s1 ⟨.res (lstR K (some v) es2) :: ds.map .dat, g⟩ := ⟨rfl, fun i x hx => by
  cases i with
  | zero =>
    simp at hx
    subst hx
    exact .inr (.inr ⟨_, v, rfl, h, rfl, pin_lst⟩)
  | succ k =>
    have hx' := hx
    simp at hx
    obtain ⟨d, _, rfl⟩ := hx
    exact .inr (.inl ⟨d, rfl, hx'⟩), hg.symm⟩
end
end DL

namespace DL
open PySem PySem.Spec PyProof.Rows L2
section
variable {K : PySem.W.Frag} {F H : Hp} {v : V}
/-- a list operand -/
theorem AtC.lst {ds : List D} (h : AtC K F H v (.list ds)) (e : Ex F H) : ∃ a vs, v = .ref a ∧ H a = some (.lst vs) ∧ AtAll K F vs ds := by
  rcases h with h | ⟨a, vs, ds', rfl, h1, h2, h3⟩
  · cases h with
    | lst h t => exact ⟨_, _, rfl, e _ _ h, t⟩
  · cases h1; exact ⟨a, vs, rfl, h2, h3⟩
theorem int_inj {ns ms : List Int} (h : ns.map PyData.int = ms.map PyData.int) : ns = ms := by
  induction ns generalizing ms with
  | nil => cases ms with
    | nil => rfl
    | cons => cases h
  | cons n ns ih => cases ms with
    | nil => cases h
    | cons m ms => simp at h; rw [h.1, ih (by simpa using h.2)]
theorem no_none_key {kvs : List (Key × V)} {ds : List (D × D)} {d : D} {r : List (D × D)} (h : AtKV K F kvs ds) : ds ≠ (.none, d) :: r := fun z => by
  cases h with
  | nil => cases z
  | @cons k v kvs d' ds' a b =>
    have := (List.cons.inj z).1
    cases k <;> cases this
theorem AtC.scr {ns : List Int} (h : AtC K F H v (.dict [(.none, .list (ns.map PyData.int))])) (e : Ex F H) : ∃ a, v = .ref a ∧ SqL K H a (ns.map V.int) := by
  rcases h with h | ⟨a, vs, ds', rfl, h1, h2, h3⟩
  · generalize hd : (PyData.dict [(.none, .list (ns.map PyData.int))]) = d at h
    cases h with
    | dic h t => exact absurd (PyData.dict.inj hd).symm (no_none_key t)
    | @scr a ms h =>
      have z := PyData.dict.inj hd
      have : ns = ms := int_inj (by
        have := (List.cons.inj z).1
        have := (Prod.mk.inj this).2
        exact PyData.list.inj this)
      subst this
      exact ⟨a, rfl, e.sqL h⟩
    | non => cases hd
    | bl b => cases hd
    | int i => cases hd
    | str x => cases hd
    | lst h t => cases hd
    | tup h t => cases hd
  · cases h1
theorem AtC.tup {ds : List D} (h : AtC K F H v (.tuple ds)) (e : Ex F H) : ∃ a vs, v = .ref a ∧ SqT K H a vs ∧ SqT K F a vs ∧ AtAll K F vs ds := by
  rcases h with h | ⟨a, vs, ds', rfl, h1, h2, h3⟩
  · cases h with
    | tup h t => exact ⟨_, _, rfl, e.sqT h, h, t⟩
  · cases h1
theorem AtC.int {i : Int} (h : AtC K F H v (.int i)) : v = .int i := by
  rcases h with h | ⟨a, vs, ds', rfl, h1, h2, h3⟩
  · cases h; rfl
  · cases h1
theorem AtC.bl {i : Bool} (h : AtC K F H v (.bool i)) : v = .bl i := by
  rcases h with h | ⟨a, vs, ds', rfl, h1, h2, h3⟩
  · cases h; rfl
  · cases h1
theorem AtC.str {i : Str} (h : AtC K F H v (.str i)) : v = .str i := by
  rcases h with h | ⟨a, vs, ds', rfl, h1, h2, h3⟩
  · cases h; rfl
  · cases h1
theorem AtC.non (h : AtC K F H v .none) : v = .non := by
  rcases h with h | ⟨a, vs, ds', rfl, h1, h2, h3⟩
  · cases h; rfl
  · cases h1
mutual
theorem flat_of_canLay : ∀ {d : D}, d.canLay0 = true → flat0 d = true
  | .none, _ => rfl
  | .bool _, _ => rfl
  | .int _, _ => rfl
  | .str _, _ => rfl
  | .list xs, h => by unfold flat0; exact flats_of_canLay (by unfold PyData.canLay0 at h; exact h)
  | .tuple xs, h => by unfold flat0; exact flats_of_canLay (by unfold PyData.canLay0 at h; exact h)
  | .dict _, h => by unfold PyData.canLay0 at h; cases h
theorem flats_of_canLay : ∀ {ds : List D}, PyData.canLayAll0 ds = true → flats0 ds = true
  | [], _ => rfl
  | x :: xs, h => by
    unfold PyData.canLayAll0 at h
    rw [Bool.and_eq_true] at h
    unfold flats0
    rw [flat_of_canLay h.1, flats_of_canLay h.2]; rfl
end
theorem AtC.dp {d : D} (h : AtC K F H v d) (e : Ex F H) (s : SeqAt.shaped d = true) : Dp K H v d := by
  have hf := flat_of_canLay (SeqAt.canLay_of_shaped s)
  rcases h with h | ⟨a, vs, ds, rfl, rfl, h2, h3⟩
  · exact h.dp e hf
  · exact .lst (.inl (.inl h2)) (AtAll.dp e h3 (by unfold flat0 at hf; exact hf))
end
/-! ### what the operators do to data -/
def addOk : D → D → Prop
  | .int _, .int _ => True
  | .str a, .str b => a.length + b.length ≤ sizeLine
  | .list a, .list b => a.length + b.length ≤ sizeLine
  | .tuple a, .tuple b => a.length + b.length ≤ sizeLine
  | .int _, .bool _ => True
  | _, _ => False
def addD : D → D → D
  | .int a, .int b => .int (a + b)
  | .str a, .str b => .str (a ++ b)
  | .list a, .list b => .list (a ++ b)
  | .tuple a, .tuple b => .tuple (a ++ b)
  | .int a, .bool b => .int (a + b2i b)
  | _, _ => .none
def subOk : D → D → Prop
  | .int _, .int _ => True
  | _, _ => False
def subD : D → D → D
  | .int a, .int b => .int (a - b)
  | _, _ => .none
def mulOk : D → D → Prop
  | .int a, .int b => CMul a b
  | .list a, .int k => -(2 ^ 63) ≤ k ∧ k < 2 ^ 63 ∧ a.length * k.toNat ≤ sizeLine
  | .tuple a, .int k => a ≠ [] ∧ 2 ≤ k ∧ k ≤ 1000 ∧ a.length ≤ 1000
  | _, _ => False
def mulD : D → D → D
  | .int a, .int b => .int (a * b)
  | .list a, .int k => .list (List.replicate k.toNat a).flatten
  | .tuple a, .int k => .tuple (List.replicate k.toNat a).flatten
  | _, _ => .none
def divOk : D → D → Prop
  | .int a, .int b => 0 < b ∧ b < 1073741824
  | _, _ => False
def divD : D → D → D
  | .int a, .int b => .int (a / b)
  | _, _ => .none
def modOk : D → D → Prop
  | .int _, .int b => 0 < b
  | _, _ => False
def modD : D → D → D
  | .int a, .int b => .int (a % b)
  | _, _ => .none
def powOk : D → D → Prop
  | .int a, .int b => CPow a b
  | _, _ => False
def powD : D → D → D
  | .int a, .int b => .int (a ^ b.toNat)
  | _, _ => .none
def ordOk : D → D → Prop
  | .int _, .int _ => True
  | _, _ => False
def ltD : D → D → D
  | .int a, .int b => .bool (decide (a < b))
  | _, _ => .none
def leD : D → D → D
  | .int a, .int b => .bool (decide (a ≤ b))
  | _, _ => .none
def gtD : D → D → D
  | .int a, .int b => .bool (decide (b < a))
  | _, _ => .none
def geD : D → D → D
  | .int a, .int b => .bool (decide (b ≤ a))
  | _, _ => .none
/-- < of ints, of texts, of tuples of ints -/
def intsOf : List D → Option (List Int)
  | [] => some []
  | .int i :: r => (intsOf r).map (i :: ·)
  | _ :: _ => none
theorem intsOf_eq : ∀ {ds : List D} {ns : List Int}, intsOf ds = some ns → ds = ns.map PyData.int
  | [], _, h => by cases h; rfl
  | .int i :: r, ns, h => by
    unfold intsOf at h
    cases q : intsOf r with
    | none => rw [q] at h; cases h
    | some l => rw [q] at h; cases h; rw [intsOf_eq q]; rfl
def ltXOk : D → D → Prop
  | .int _, .int _ => True
  | .str _, .str _ => True
  | .tuple a, .tuple b => (intsOf a).isSome = true ∧ (intsOf b).isSome = true
  | _, _ => False
def ltXD : D → D → D
  | .int a, .int b => .bool (decide (a < b))
  | .str a, .str b => .bool (decide (a.cps.toList < b.cps.toList))
  | .tuple a, .tuple b => .bool (HT.lexLt ((intsOf a).getD []) ((intsOf b).getD []))
  | _, _ => .none
def eqOk (x y : D) : Prop := SeqAt.shaped x = true ∧ SeqAt.shaped y = true
def eqD (x y : D) : D := .bool (PyData.eqv x y)
def neD (x y : D) : D := .bool (!PyData.eqv x y)
def isNoneB : D → Bool
  | .none => true
  | _ => false
def isOk (_ y : D) : Prop := y = .none
def isD (x _ : D) : D := .bool (isNoneB x)
def isnD (x _ : D) : D := .bool (!isNoneB x)
def isbOk : D → D → Prop
  | .bool _, .bool _ => True
  | _, _ => False
def isbD : D → D → D
  | .bool a, .bool b => .bool (decide (a = b))
  | _, _ => .none
def isnbD : D → D → D
  | .bool a, .bool b => .bool (!decide (a = b))
  | _, _ => .none
def inOk : D → D → Prop
  | x, .list ds => SeqAt.shaped x = true ∧ SeqAt.shaped (.list ds) = true
  | x, .tuple ds => SeqAt.shaped x = true ∧ SeqAt.shaped (.tuple ds) = true
  | _, _ => False
def inB : D → D → Bool
  | x, .list ds => ds.any fun z => PyData.eqv z x
  | x, .tuple ds => ds.any fun z => PyData.eqv z x
  | _, _ => false
def inD (x y : D) : D := .bool (inB x y)
def ninD (x y : D) : D := .bool (!inB x y)
/-- x[i] -/
def ixOk : D → D → Prop
  | .list ds, .int i => (atI ds i).isSome = true
  | .dict [(.none, .list ds)], .int i => (intsOf ds).isSome = true ∧ (atI ds i).isSome = true
  | .tuple ds, .int i => (atI ds i).isSome = true
  | .str z, .int i => z.length ≤ sizeLine ∧ (atI z.cps.toList i).isSome = true
  | _, _ => False
def ixD : D → D → D
  | .list ds, .int i => (atI ds i).getD .none
  | .dict [(.none, .list ds)], .int i => (atI ds i).getD .none
  | .tuple ds, .int i => (atI ds i).getD .none
  | .str z, .int i => .str ⟨#[(atI z.cps.toList i).getD 0]⟩
  | _, _ => .none
def negOk : D → Prop
  | .int _ => True
  | _ => False
def negD : D → D
  | .int a => .int (-a)
  | _ => .none
theorem atI_all {K : PySem.W.Frag} {F : Hp} {vs : List V} {ds : List D} {i : Int} {d : D} (h : AtAll K F vs ds) (e : atI ds i = some d) : ∃ v, atI vs i = some v ∧ At K F v d := by
  unfold atI at *
  rw [h.length]
  cases q : ixN ds.length i with
  | none => rw [q] at e; cases e
  | some j =>
    rw [q] at e
    exact h.get e
section
variable {X : Cx}
theorem op_addU : OpR X (binaryOp .Add) (rD2 X.K addOk addD) := by
  intro pins s σ H x y v u Q I rx ry ⟨F, dx, dy, e, hx, hy, ok, k⟩
  match dx, dy, ok with
  | .int i, .int j, _ =>
    have q1 := hx.int; have q2 := hy.int
    subst q1; subst q2
    exact op_add pins s σ H _ _ v u Q I rx ry ⟨i, j, rfl, rfl, k _ H F (Grow.refl e) (.int _)⟩
  | .int i, .bool j, _ =>
    have q1 := hx.int; have q2 := hy.bl
    subst q1; subst q2
    exact op_add_ib pins s σ H _ _ v u Q I rx ry ⟨i, j, rfl, rfl, k _ H F (Grow.refl e) (.int _)⟩
  | .str a, .str b, ok =>
    have q1 := hx.str; have q2 := hy.str
    subst q1; subst q2
    exact op_add_str pins s σ H _ _ v u Q I rx ry ⟨a, b, rfl, rfl, ok, k _ H F (Grow.refl e) (.str _)⟩
  | .list a, .list b, ok =>
    obtain ⟨p, vs, rfl, h1, h2⟩ := hx.lst e
    obtain ⟨q, ws, rfl, h3, h4⟩ := hy.lst e
    have ok : a.length + b.length ≤ sizeLine := ok
    refine op_cat pins s σ H _ _ v u Q I rx ry ⟨p, q, vs, ws, rfl, rfl, h1, h3, by rw [h2.length, h4.length]; exact ok, fun r hr => ?_⟩
    have g := Grow.laid (o := .lst (vs ++ ws)) e hr
    exact k _ _ _ g (.lst upd_same ((h2.append h4).ex g.f))
  | .tuple a, .tuple b, ok =>
    obtain ⟨p, vs, rfl, h1, h1', h2⟩ := hx.tup e
    obtain ⟨q, ws, rfl, h3, h3', h4⟩ := hy.tup e
    have ok : a.length + b.length ≤ sizeLine := ok
    refine op_catA pins s σ H _ _ v u Q I rx ry ⟨p, q, vs, ws, rfl, rfl, h1, h3, by rw [h2.length, h4.length]; exact ok, fun z => ?_, fun z z2 => ?_, fun z z2 r hr => ?_⟩
    · subst z
      cases h2
      exact k _ H F (Grow.refl e) (.tup h3' h4)
    · subst z2
      cases h4
      have : addD (.tuple a) (.tuple []) = .tuple a := by simp [addD]
      rw [this] at k
      exact k _ H F (Grow.refl e) (.tup h1' h2)
    · have g := Grow.laid (o := .tup (vs ++ ws)) e hr
      exact k _ _ _ g (.tup (.inl (.inl upd_same)) ((h2.append h4).ex g.f))
theorem op_subU : OpR X (binaryOp .Sub) (rD2 X.K subOk subD) := by
  intro pins s σ H x y v u Q I rx ry ⟨F, dx, dy, e, hx, hy, ok, k⟩
  match dx, dy, ok with
  | .int i, .int j, _ =>
    have q1 := hx.int; have q2 := hy.int
    subst q1; subst q2
    exact op_sub pins s σ H _ _ v u Q I rx ry ⟨i, j, rfl, rfl, k _ H F (Grow.refl e) (.int _)⟩
theorem AtAll.flat {K : PySem.W.Frag} {F : Hp} {vs : List V} {ds : List D} (h : AtAll K F vs ds) : ∀ n : Nat, AtAll K F (List.replicate n vs).flatten (List.replicate n ds).flatten
  | 0 => .nil
  | n + 1 => by rw [List.replicate_succ, List.replicate_succ, List.flatten_cons, List.flatten_cons]; exact h.append (AtAll.flat h n)
theorem op_mulU : OpR X (binaryOp .Mult) (rD2 X.K mulOk mulD) := by
  intro pins s σ H x y v u Q I rx ry ⟨F, dx, dy, e, hx, hy, ok, k⟩
  match dx, dy, ok with
  | .int i, .int j, ok =>
    have q1 := hx.int; have q2 := hy.int
    subst q1; subst q2
    exact op_mul pins s σ H _ _ v u Q I rx ry ⟨i, j, rfl, rfl, ok, k _ H F (Grow.refl e) (.int _)⟩
  | .list a, .int j, ok =>
    obtain ⟨p, vs, rfl, h1, h2⟩ := hx.lst e
    have q2 := hy.int
    subst q2
    obtain ⟨o1, o2, o3⟩ := ok
    refine op_rep pins s σ H _ _ v u Q I rx ry ⟨p, j, vs, rfl, rfl, h1, o1, o2, by rw [h2.length]; exact o3, fun r hr => ?_⟩
    have g := Grow.laid (o := .lst (List.replicate j.toNat vs).flatten) e hr
    exact k _ _ _ g (.lst upd_same ((h2.flat _).ex g.f))
  | .tuple a, .int j, ok =>
    obtain ⟨p, vs, rfl, h1, h1', h2⟩ := hx.tup e
    have q2 := hy.int
    subst q2
    obtain ⟨o0, o1, o2, o3⟩ := ok
    refine op_repT pins s σ H _ _ v u Q I rx ry ⟨p, j, vs, rfl, rfl, h1, (fun z => o0 (by cases h2 with | nil => rfl | cons _ _ => cases z)), o1, o2, by rw [h2.length]; exact o3, fun r hr => ?_⟩
    have g := Grow.laid (o := .tup (List.replicate j.toNat vs).flatten) e hr
    exact k _ _ _ g (.tup (.inl (.inl upd_same)) ((h2.flat _).ex g.f))
theorem op_divU : OpR X (binaryOp .FloorDiv) (rD2 X.K divOk divD) := by
  intro pins s σ H x y v u Q I rx ry ⟨F, dx, dy, e, hx, hy, ok, k⟩
  match dx, dy, ok with
  | .int i, .int j, ok =>
    have q1 := hx.int; have q2 := hy.int
    subst q1; subst q2
    exact op_fdiv pins s σ H _ _ v u Q I rx ry ⟨i, j, rfl, rfl, ok, k _ H F (Grow.refl e) (.int _)⟩
theorem op_modU : OpR X (binaryOp .Mod) (rD2 X.K modOk modD) := by
  intro pins s σ H x y v u Q I rx ry ⟨F, dx, dy, e, hx, hy, ok, k⟩
  match dx, dy, ok with
  | .int i, .int j, ok =>
    have q1 := hx.int; have q2 := hy.int
    subst q1; subst q2
    exact op_mod pins s σ H _ _ v u Q I rx ry ⟨i, j, rfl, rfl, ok, k _ H F (Grow.refl e) (.int _)⟩
theorem op_powU : OpR X (binaryOp .Pow) (rD2 X.K powOk powD) := by
  intro pins s σ H x y v u Q I rx ry ⟨F, dx, dy, e, hx, hy, ok, k⟩
  match dx, dy, ok with
  | .int i, .int j, ok =>
    have q1 := hx.int; have q2 := hy.int
    subst q1; subst q2
    exact op_pow pins s σ H _ _ v u Q I rx ry ⟨i, j, rfl, rfl, ok, k _ H F (Grow.refl e) (.int _)⟩
theorem op_leU : OpR X (compareOp .LtE) (rD2 X.K ordOk leD) := by
  intro pins s σ H x y v u Q I rx ry ⟨F, dx, dy, e, hx, hy, ok, k⟩
  match dx, dy, ok with
  | .int i, .int j, _ =>
    have q1 := hx.int; have q2 := hy.int
    subst q1; subst q2
    exact op_le pins s σ H _ _ v u Q I rx ry ⟨i, j, rfl, rfl, k _ H F (Grow.refl e) (.bl _)⟩
theorem op_gtU : OpR X (compareOp .Gt) (rD2 X.K ordOk gtD) := by
  intro pins s σ H x y v u Q I rx ry ⟨F, dx, dy, e, hx, hy, ok, k⟩
  match dx, dy, ok with
  | .int i, .int j, _ =>
    have q1 := hx.int; have q2 := hy.int
    subst q1; subst q2
    exact op_gt pins s σ H _ _ v u Q I rx ry ⟨i, j, rfl, rfl, k _ H F (Grow.refl e) (.bl _)⟩
theorem op_geU : OpR X (compareOp .GtE) (rD2 X.K ordOk geD) := by
  intro pins s σ H x y v u Q I rx ry ⟨F, dx, dy, e, hx, hy, ok, k⟩
  match dx, dy, ok with
  | .int i, .int j, _ =>
    have q1 := hx.int; have q2 := hy.int
    subst q1; subst q2
    exact op_ge pins s σ H _ _ v u Q I rx ry ⟨i, j, rfl, rfl, k _ H F (Grow.refl e) (.bl _)⟩
theorem op_ltU (hu : X.A.units < cLine) : OpR X (compareOp .Lt) (rD2 X.K ltXOk ltXD) := by
  intro pins s σ H x y v u Q I rx ry ⟨F, dx, dy, e, hx, hy, ok, k⟩
  match dx, dy, ok with
  | .int i, .int j, _ =>
    have q1 := hx.int; have q2 := hy.int
    subst q1; subst q2
    exact op_lt pins s σ H _ _ v u Q I rx ry ⟨i, j, rfl, rfl, k _ H F (Grow.refl e) (.bl _)⟩
  | .str i, .str j, _ =>
    have q1 := hx.str; have q2 := hy.str
    subst q1; subst q2
    exact op_lt_str pins s σ H _ _ v u Q I rx ry ⟨i, j, rfl, rfl, k _ H F (Grow.refl e) (.bl _)⟩
  | .tuple a, .tuple b, ok =>
    obtain ⟨p, vs, rfl, h1, h1', h2⟩ := hx.tup e
    obtain ⟨q, ws, rfl, h3, h3', h4⟩ := hy.tup e
    obtain ⟨o1, o2⟩ := ok
    obtain ⟨ns, hn⟩ := Option.isSome_iff_exists.mp o1
    obtain ⟨ms, hm⟩ := Option.isSome_iff_exists.mp o2
    have ea := intsOf_eq hn
    have eb := intsOf_eq hm
    subst ea; subst eb
    rw [h2.ints] at h1
    rw [h4.ints] at h3
    refine op_ltT hu pins s σ H _ _ v u Q I rx ry ⟨p, q, ns, ms, rfl, rfl, h1, h3, k _ H F (Grow.refl e) ?_⟩
    have : ltXD (.tuple (ns.map PyData.int)) (.tuple (ms.map PyData.int)) = .bool (HT.lexLt ns ms) := by simp [ltXD, hn, hm]
    rw [this]
    exact .bl _
theorem op_eqU (hu : X.A.units + 64 < cLine) : OpR X (compareOp .Eq) (rD2 X.K eqOk eqD) := by
  intro pins s σ H x y v u Q I rx ry ⟨F, dx, dy, e, hx, hy, ⟨o1, o2⟩, k⟩
  exact op_eqD hu pins s σ H _ _ v u Q I rx ry ⟨dx, dy, hx.dp e o1, hy.dp e o2, o1, o2, k _ H F (Grow.refl e) (.bl _)⟩
theorem op_neU (hu : X.A.units + 64 < cLine) : OpR X (compareOp .NotEq) (rD2 X.K eqOk neD) := by
  intro pins s σ H x y v u Q I rx ry ⟨F, dx, dy, e, hx, hy, ⟨o1, o2⟩, k⟩
  exact op_neD hu pins s σ H _ _ v u Q I rx ry ⟨dx, dy, hx.dp e o1, hy.dp e o2, o1, o2, k _ H F (Grow.refl e) (.bl _)⟩
theorem isNone_dec {K : PySem.W.Frag} {F H : Hp} {v : V} {d : D} (h : AtC K F H v d) : decide (v = .non) = isNoneB d := by
  rcases h with h | ⟨a, vs, ds, rfl, rfl, _⟩
  · cases h <;> rfl
  · rfl
theorem op_isU : OpR X (compareOp .Is) (rD2 X.K isOk isD) := by
  intro pins s σ H x y v u Q I rx ry ⟨F, dx, dy, e, hx, hy, ok, k⟩
  have ok : dy = .none := ok
  subst ok
  have q2 := hy.non
  subst q2
  refine op_isN pins s σ H _ _ v u Q I rx ry ⟨rfl, ?_⟩
  rw [isNone_dec hx]
  exact k _ H F (Grow.refl e) (.bl _)
theorem op_isnU : OpR X (compareOp .IsNot) (rD2 X.K isOk isnD) := by
  intro pins s σ H x y v u Q I rx ry ⟨F, dx, dy, e, hx, hy, ok, k⟩
  have ok : dy = .none := ok
  subst ok
  have q2 := hy.non
  subst q2
  refine op_notN pins s σ H _ _ v u Q I rx ry ⟨rfl, ?_⟩
  rw [isNone_dec hx]
  exact k _ H F (Grow.refl e) (.bl _)
theorem op_isbU : OpR X (compareOp .Is) (rD2 X.K isbOk isbD) := by
  intro pins s σ H x y v u Q I rx ry ⟨F, dx, dy, e, hx, hy, ok, k⟩
  match dx, dy, ok with
  | .bool i, .bool j, _ =>
    have q1 := hx.bl; have q2 := hy.bl
    subst q1; subst q2
    exact op_isBl pins s σ H _ _ v u Q I rx ry ⟨i, j, rfl, rfl, k _ H F (Grow.refl e) (.bl _)⟩
theorem op_isnbU : OpR X (compareOp .IsNot) (rD2 X.K isbOk isnbD) := by
  intro pins s σ H x y v u Q I rx ry ⟨F, dx, dy, e, hx, hy, ok, k⟩
  match dx, dy, ok with
  | .bool i, .bool j, _ =>
    have q1 := hx.bl; have q2 := hy.bl
    subst q1; subst q2
    exact op_notBl pins s σ H _ _ v u Q I rx ry ⟨i, j, rfl, rfl, k _ H F (Grow.refl e) (.bl _)⟩
theorem op_inU (hu : X.A.units + 65 < cLine) : OpR X (compareOp .In) (rD2 X.K inOk inD) := by
  intro pins s σ H x y v u Q I rx ry ⟨F, dx, dy, e, hx, hy, ok, k⟩
  match dy, ok with
  | .list ds, ⟨o1, o2⟩ => exact op_inD hu pins s σ H _ _ v u Q I rx ry ⟨dx, ds, hx.dp e o1, hy.dp e o2, o1, o2, k _ H F (Grow.refl e) (.bl _)⟩
  | .tuple ds, ⟨o1, o2⟩ =>
    obtain ⟨as, r1⟩ := Dp.reads I dx x v (hx.dp e o1) rx
    obtain ⟨bs, r2⟩ := Dp.reads I (.tuple ds) y u (hy.dp e o2) ry
    exact SeqAt.in_tuple_reads r2 r1 (SeqAt.canLay_of_shaped o2) (SeqAt.canLay_of_shaped o1) (room_in_shaped o1 hu) ⟨.bl _, H, I, rfl, k _ H F (Grow.refl e) (.bl _)⟩
theorem op_ninU (hu : X.A.units + 65 < cLine) : OpR X (compareOp .NotIn) (rD2 X.K inOk ninD) := by
  intro pins s σ H x y v u Q I rx ry ⟨F, dx, dy, e, hx, hy, ok, k⟩
  match dy, ok with
  | .list ds, ⟨o1, o2⟩ => exact op_notInD hu pins s σ H _ _ v u Q I rx ry ⟨dx, ds, hx.dp e o1, hy.dp e o2, o1, o2, k _ H F (Grow.refl e) (.bl _)⟩
  | .tuple ds, ⟨o1, o2⟩ =>
    obtain ⟨as, r1⟩ := Dp.reads I dx x v (hx.dp e o1) rx
    obtain ⟨bs, r2⟩ := Dp.reads I (.tuple ds) y u (hy.dp e o2) ry
    exact SeqAt.notIn_tuple_reads r2 r1 (SeqAt.canLay_of_shaped o2) (SeqAt.canLay_of_shaped o1) (room_in_shaped o1 hu) ⟨.bl _, H, I, rfl, k _ H F (Grow.refl e) (.bl _)⟩
theorem ix_U : IxR X (rD2 X.K ixOk ixD) := by
  intro va vb pins s σ H x y v u Q I rx ry ⟨F, dx, dy, e, hx, hy, ok, k⟩
  match dx, dy, ok with
  | .dict [(.none, .list ds)], .int i, ⟨o1, ok⟩ =>
    obtain ⟨ns, hn⟩ := Option.isSome_iff_exists.mp o1
    have ee := intsOf_eq hn
    subst ee
    obtain ⟨p, rfl, h1⟩ := hx.scr e
    have q2 := hy.int
    subst q2
    obtain ⟨d, hd⟩ := Option.isSome_iff_exists.mp ok
    obtain ⟨w, hw, ha⟩ := atI_all (K := X.K) (F := F) AtAll.of_ints hd
    have : ixD (.dict [(.none, .list (ns.map PyData.int))]) (.int i) = d := by simp [ixD, hd]
    rw [this] at k
    exact ix_list va vb pins s σ H _ _ v u Q I rx ry ⟨p, _, i, w, rfl, rfl, h1, hw, k _ H F (Grow.refl e) ha⟩
  | .list ds, .int i, ok =>
    obtain ⟨p, vs, rfl, h1, h2⟩ := hx.lst e
    have q2 := hy.int
    subst q2
    obtain ⟨d, hd⟩ := Option.isSome_iff_exists.mp ok
    obtain ⟨w, hw, ha⟩ := atI_all h2 hd
    have : ixD (.list ds) (.int i) = d := by simp [ixD, hd]
    rw [this] at k
    exact ix_list va vb pins s σ H _ _ v u Q I rx ry ⟨p, vs, i, w, rfl, rfl, .inl (.inl h1), hw, k _ H F (Grow.refl e) ha⟩
  | .tuple ds, .int i, ok =>
    obtain ⟨p, vs, rfl, h1, h1', h2⟩ := hx.tup e
    have q2 := hy.int
    subst q2
    obtain ⟨d, hd⟩ := Option.isSome_iff_exists.mp ok
    obtain ⟨w, hw, ha⟩ := atI_all h2 hd
    have : ixD (.tuple ds) (.int i) = d := by simp [ixD, hd]
    rw [this] at k
    exact ix_tup va vb pins s σ H _ _ v u Q I rx ry ⟨p, vs, i, w, rfl, rfl, h1, hw, k _ H F (Grow.refl e) ha⟩
  | .str z, .int i, ⟨o1, ok⟩ =>
    have q1 := hx.str; have q2 := hy.int
    subst q1; subst q2
    obtain ⟨d, hd⟩ := Option.isSome_iff_exists.mp ok
    have : ixD (.str z) (.int i) = .str ⟨#[d]⟩ := by simp [ixD, hd]
    rw [this] at k
    exact ix_str va vb pins s σ H _ _ v u Q I rx ry ⟨z, i, d, rfl, rfl, o1, hd, k _ H F (Grow.refl e) (.str _)⟩
theorem un_negU : UnR X (unaryOp .USub) (rD1 X.K negOk negD) := by
  intro pins s σ H x v Q I rx ⟨F, dx, e, hx, ok, k⟩
  match dx, ok with
  | .int i, _ =>
    have q1 := hx.int
    subst q1
    exact un_neg pins s σ H _ v Q I rx ⟨i, rfl, k _ H F (Grow.refl e) (.int _)⟩
end
end DL

namespace DL
open PySem PySem.Spec PyProof.Rows L2
/-! ### built-ins by data -/
def lenOk : List D → Prop
  | [.list _] => True
  | [.dict [(.none, .list ds)]] => (intsOf ds).isSome = true
  | [.tuple _] => True
  | [.str z] => z.length ≤ sizeLine
  | _ => False
def lenD : List D → D
  | [.list a] => .int a.length
  | [.dict [(.none, .list a)]] => .int a.length
  | [.tuple a] => .int a.length
  | [.str z] => .int z.length
  | _ => .none
def absOk : List D → Prop
  | [.int _] => True
  | _ => False
def absD : List D → D
  | [.int a] => .int (if a < 0 then -a else a)
  | _ => .none
def intOk : List D → Prop
  | [.int _] => True
  | [.bool _] => True
  | _ => False
def intD : List D → D
  | [.int a] => .int a
  | [.bool b] => .int (if b then 1 else 0)
  | _ => .none
def lmax (ns : List Int) : Int := ns.foldl max (ns.headD 0)
def lmin (ns : List Int) : Int := ns.foldl min (ns.headD 0)
def mmOk : List D → Prop
  | [.int _, .int _] => True
  | [.list ds] => ds ≠ [] ∧ (intsOf ds).isSome = true
  | _ => False
def maxD : List D → D
  | [.int a, .int b] => .int (max a b)
  | [.list ds] => .int (lmax ((intsOf ds).getD []))
  | _ => .none
def minD : List D → D
  | [.int a, .int b] => .int (min a b)
  | [.list ds] => .int (lmin ((intsOf ds).getD []))
  | _ => .none
def sumOk : List D → Prop
  | [.list ds] => (intsOf ds).isSome = true
  | _ => False
def sumD : List D → D
  | [.list ds] => .int ((intsOf ds).getD []).sum
  | _ => .none
def boolsOf : List D → Option (List Bool)
  | [] => some []
  | .bool i :: r => (boolsOf r).map (i :: ·)
  | _ :: _ => none
theorem boolsOf_eq : ∀ {ds : List D} {ns : List Bool}, boolsOf ds = some ns → ds = ns.map PyData.bool
  | [], _, h => by cases h; rfl
  | .bool i :: r, ns, h => by
    unfold boolsOf at h
    cases q : boolsOf r with
    | none => rw [q] at h; cases h
    | some l => rw [q] at h; cases h; rw [boolsOf_eq q]; rfl
theorem intsOf_map (ns : List Int) : intsOf (ns.map PyData.int) = some ns := by
  induction ns with
  | nil => rfl
  | cons n ns ih => simp [intsOf, ih]
theorem boolsOf_map (ns : List Bool) : boolsOf (ns.map PyData.bool) = some ns := by
  induction ns with
  | nil => rfl
  | cons n ns ih => simp [boolsOf, ih]
theorem AtAll.bools {K : PySem.W.Frag} {F : Hp} : ∀ {vs : List V} {ns : List Bool}, AtAll K F vs (ns.map PyData.bool) → vs = ns.map V.bl
  | [], [], .nil => rfl
  | _, n :: ns, .cons h t => by cases h; rw [AtAll.bools t]; rfl
def allOk : List D → Prop
  | [.list ds] => (boolsOf ds).isSome = true
  | _ => False
def allD : List D → D
  | [.list ds] => .bool (((boolsOf ds).getD []).all id)
  | _ => .none
def anyD : List D → D
  | [.list ds] => .bool (((boolsOf ds).getD []).any id)
  | _ => .none
def seqOk : List D → Prop
  | [.list _] => True
  | [.tuple _] => True
  | _ => False
def tupD : List D → D
  | [.list a] => .tuple a
  | [.tuple a] => .tuple a
  | _ => .none
def listD : List D → D
  | [.list a] => .list a
  | [.tuple a] => .list a
  | _ => .none
/-- the ints in order -/
def sortI (ns : List Int) : List Int := ns.mergeSort fun a b => decide (a ≤ b)
theorem sortI_perm (ns : List Int) : (sortI ns).Perm ns := List.mergeSort_perm _ _
theorem sortI_sorted (ns : List Int) : (sortI ns).Pairwise (· ≤ ·) := by
  have h := List.pairwise_mergeSort (le := fun a b : Int => decide (a ≤ b)) (fun a b c h1 h2 => by simp at *; omega) (fun a b => by simp; omega) ns
  exact h.imp fun h => by simpa using h
theorem sorted_unique : ∀ {l m : List Int}, l.Perm m → l.Pairwise (· ≤ ·) → m.Pairwise (· ≤ ·) → l = m
  | [], m, h, _, _ => by rw [List.Perm.nil_eq h]
  | x :: l, [], h, _, _ => by simpa using h.length_eq
  | x :: l, y :: m, h, h1, h2 => by
    have hx : x ∈ y :: m := h.subset (List.mem_cons_self)
    have hy : y ∈ x :: l := h.symm.subset (List.mem_cons_self)
    rw [List.pairwise_cons] at h1 h2
    have e : x = y := by
      rcases List.mem_cons.mp hx with e | hx
      · exact e
      · rcases List.mem_cons.mp hy with e | hy
        · exact e.symm
        · exact Int.le_antisymm (h1.1 y hy) (h2.1 x hx)
    subst e
    rw [sorted_unique (List.Perm.cons_inv h) h1.2 h2.2]
def sortOk : List D → Prop
  | [.list ds] => (intsOf ds).isSome = true
  | _ => False
def sortD : List D → D
  | [.list ds] => .list ((sortI ((intsOf ds).getD [])).map PyData.int)
  | _ => .none
theorem lmax_spec : ∀ (ns : List Int) (m : Int), m ∈ ns → (∀ y ∈ ns, y ≤ m) → lmax ns = m := by
  have key : ∀ (ns : List Int) (a : Int), (ns.foldl max a = a ∨ ns.foldl max a ∈ ns) ∧ a ≤ ns.foldl max a ∧ ∀ y ∈ ns, y ≤ ns.foldl max a := by
    intro ns
    induction ns with
    | nil => intro a; exact ⟨.inl rfl, Int.le_refl _, fun y h => by simp at h⟩
    | cons x ns ih =>
      intro a
      obtain ⟨h1, h2, h3⟩ := ih (max a x)
      simp only [List.foldl_cons]
      refine ⟨?_, by omega, fun y hy => ?_⟩
      · rcases h1 with h1 | h1
        · rw [h1]
          by_cases q : a ≤ x
          · right; rw [Int.max_eq_right q]; simp
          · left; omega
        · exact .inr (List.mem_cons_of_mem _ h1)
      · rcases List.mem_cons.mp hy with rfl | hy
        · omega
        · exact h3 y hy
  intro ns m hm hle
  cases ns with
  | nil => simp at hm
  | cons x ns =>
    unfold lmax
    obtain ⟨h1, h2, h3⟩ := key (x :: ns) x
    have h4 : (x :: ns).foldl max x ∈ x :: ns := by
      rcases h1 with h1 | h1
      · rw [h1]; simp
      · exact h1
    exact Int.le_antisymm (hle _ h4) (h3 m hm)
theorem lmin_spec : ∀ (ns : List Int) (m : Int), m ∈ ns → (∀ y ∈ ns, m ≤ y) → lmin ns = m := by
  have key : ∀ (ns : List Int) (a : Int), (ns.foldl min a = a ∨ ns.foldl min a ∈ ns) ∧ ns.foldl min a ≤ a ∧ ∀ y ∈ ns, ns.foldl min a ≤ y := by
    intro ns
    induction ns with
    | nil => intro a; exact ⟨.inl rfl, Int.le_refl _, fun y h => by simp at h⟩
    | cons x ns ih =>
      intro a
      obtain ⟨h1, h2, h3⟩ := ih (min a x)
      simp only [List.foldl_cons]
      refine ⟨?_, by omega, fun y hy => ?_⟩
      · rcases h1 with h1 | h1
        · rw [h1]
          by_cases q : x ≤ a
          · right; rw [Int.min_eq_right q]; simp
          · left; omega
        · exact .inr (List.mem_cons_of_mem _ h1)
      · rcases List.mem_cons.mp hy with rfl | hy
        · omega
        · exact h3 y hy
  intro ns m hm hle
  cases ns with
  | nil => simp at hm
  | cons x ns =>
    unfold lmin
    obtain ⟨h1, h2, h3⟩ := key (x :: ns) x
    have h4 : (x :: ns).foldl min x ∈ x :: ns := by
      rcases h1 with h1 | h1
      · rw [h1]; simp
      · exact h1
    exact Int.le_antisymm (h3 m hm) (hle _ h4)
section
variable {X : Cx}
theorem call_lenU : CallR X (.builtin "len") (rDn X.K lenOk lenD) := by
  intro pins s σ H xs us Q I r ⟨F, ds, e, ha, ok, k⟩
  match ds, ok, ha with
  | [.dict [(.none, .list a)]], o1, .cons h1 .nil =>
    obtain ⟨ns, hn⟩ := Option.isSome_iff_exists.mp o1
    have ee := intsOf_eq hn
    subst ee
    obtain ⟨p, rfl, h2⟩ := h1.scr e
    refine call_len_seq pins s σ H _ us Q I r ⟨p, _, rfl, .inl h2, ?_⟩
    have : lenD [.dict [(.none, .list (ns.map PyData.int))]] = .int ((ns.map V.int).length : Nat) := by simp [lenD]
    rw [this] at k
    exact k _ H F (Grow.refl e) (.int _)
  | [.list a], _, .cons h1 .nil =>
    obtain ⟨p, vs, rfl, h2, h3⟩ := h1.lst e
    refine call_len_seq pins s σ H _ us Q I r ⟨p, vs, rfl, .inl (.inl (.inl h2)), ?_⟩
    rw [h3.length]
    exact k _ H F (Grow.refl e) (.int _)
  | [.tuple a], _, .cons h1 .nil =>
    obtain ⟨p, vs, rfl, h2, _, h3⟩ := h1.tup e
    refine call_len_seq pins s σ H _ us Q I r ⟨p, vs, rfl, .inr h2, ?_⟩
    rw [h3.length]
    exact k _ H F (Grow.refl e) (.int _)
  | [.str z], ok, .cons h1 .nil =>
    have q := h1.str
    subst q
    exact call_len_str pins s σ H _ us Q I r ⟨z, rfl, ok, k _ H F (Grow.refl e) (.int _)⟩
theorem call_absU : CallR X (.builtin "abs") (rDn X.K absOk absD) := by
  intro pins s σ H xs us Q I r ⟨F, ds, e, ha, ok, k⟩
  match ds, ok, ha with
  | [.int a], _, .cons h1 .nil =>
    have q := h1.int
    subst q
    exact call_abs pins s σ H _ us Q I r ⟨a, rfl, k _ H F (Grow.refl e) (.int _)⟩
theorem call_intU : CallR X (.type "int") (rDn X.K intOk intD) := by
  intro pins s σ H xs us Q I r ⟨F, ds, e, ha, ok, k⟩
  match ds, ok, ha with
  | [.int a], _, .cons h1 .nil =>
    have q := h1.int
    subst q
    exact call_int1 pins s σ H _ us Q I r (.inl ⟨a, rfl, k _ H F (Grow.refl e) (.int _)⟩)
  | [.bool a], _, .cons h1 .nil =>
    have q := h1.bl
    subst q
    exact call_int1 pins s σ H _ us Q I r (.inr ⟨a, rfl, k _ H F (Grow.refl e) (.int _)⟩)
theorem call_maxU (hc : X.calm = true) : CallR X (.builtin "max") (rDn X.K mmOk maxD) := by
  intro pins s σ H xs us Q I r ⟨F, ds, e, ha, ok, k⟩
  match ds, ok, ha with
  | [.int a, .int b], _, .cons h1 (.cons h2 .nil) =>
    have q := h1.int; have q2 := h2.int
    subst q; subst q2
    refine call_max2 hc pins s σ H _ us Q I r ⟨a, b, rfl, ?_⟩
    have : (if b > a then b else a) = max a b := by omega
    rw [this]
    exact k _ H F (Grow.refl e) (.int _)
  | [.list ds], ⟨o1, o2⟩, .cons h1 .nil =>
    obtain ⟨p, vs, rfl, h2, h3⟩ := h1.lst e
    obtain ⟨ns, hn⟩ := Option.isSome_iff_exists.mp o2
    have ee := intsOf_eq hn
    subst ee
    rw [h3.ints] at h2
    refine cr_max hc pins s σ H _ us Q I r ⟨p, ns, rfl, .inl (.inl h2), by cases ns with | nil => exact absurd rfl o1 | cons _ _ => simp, fun m hm hle => ?_⟩
    have : maxD [.list (ns.map PyData.int)] = .int m := by simp only [maxD, hn, Option.getD_some]; rw [lmax_spec ns m hm hle]
    rw [this] at k
    exact k _ H F (Grow.refl e) (.int _)
theorem call_minU (hc : X.calm = true) : CallR X (.builtin "min") (rDn X.K mmOk minD) := by
  intro pins s σ H xs us Q I r ⟨F, ds, e, ha, ok, k⟩
  match ds, ok, ha with
  | [.int a, .int b], _, .cons h1 (.cons h2 .nil) =>
    have q := h1.int; have q2 := h2.int
    subst q; subst q2
    refine call_min2 hc pins s σ H _ us Q I r ⟨a, b, rfl, ?_⟩
    have : (if b < a then b else a) = min a b := by omega
    rw [this]
    exact k _ H F (Grow.refl e) (.int _)
  | [.list ds], ⟨o1, o2⟩, .cons h1 .nil =>
    obtain ⟨p, vs, rfl, h2, h3⟩ := h1.lst e
    obtain ⟨ns, hn⟩ := Option.isSome_iff_exists.mp o2
    have ee := intsOf_eq hn
    subst ee
    rw [h3.ints] at h2
    refine cr_min hc pins s σ H _ us Q I r ⟨p, ns, rfl, .inl (.inl h2), by cases ns with | nil => exact absurd rfl o1 | cons _ _ => simp, fun m hm hle => ?_⟩
    have : minD [.list (ns.map PyData.int)] = .int m := by simp only [minD, hn, Option.getD_some]; rw [lmin_spec ns m hm hle]
    rw [this] at k
    exact k _ H F (Grow.refl e) (.int _)
theorem call_sumU (hc : X.calm = true) : CallR X (.builtin "sum") (rDn X.K sumOk sumD) := by
  intro pins s σ H xs us Q I r ⟨F, ds, e, ha, ok, k⟩
  match ds, ok, ha with
  | [.list ds], o2, .cons h1 .nil =>
    obtain ⟨p, vs, rfl, h2, h3⟩ := h1.lst e
    obtain ⟨ns, hn⟩ := Option.isSome_iff_exists.mp o2
    have ee := intsOf_eq hn
    subst ee
    rw [h3.ints] at h2
    refine cr_sum hc pins s σ H _ us Q I r ⟨p, ns, rfl, .inl (.inl h2), ?_⟩
    have : sumD [.list (ns.map PyData.int)] = .int ns.sum := by simp only [sumD, hn, Option.getD_some]
    rw [this] at k
    exact k _ H F (Grow.refl e) (.int _)
theorem call_allU (hc : X.calm = true) : CallR X (.builtin "all") (rDn X.K allOk allD) := by
  intro pins s σ H xs us Q I r ⟨F, ds, e, ha, ok, k⟩
  match ds, ok, ha with
  | [.list ds], o2, .cons h1 .nil =>
    obtain ⟨p, vs, rfl, h2, h3⟩ := h1.lst e
    obtain ⟨ns, hn⟩ := Option.isSome_iff_exists.mp o2
    have ee := boolsOf_eq hn
    subst ee
    rw [h3.bools] at h2
    refine cr_all hc pins s σ H _ us Q I r ⟨p, ns, rfl, .inl (.inl h2), ?_⟩
    have : allD [.list (ns.map PyData.bool)] = .bool (ns.all id) := by simp only [allD, hn, Option.getD_some]
    rw [this] at k
    exact k _ H F (Grow.refl e) (.bl _)
theorem call_anyU (hc : X.calm = true) : CallR X (.builtin "any") (rDn X.K allOk anyD) := by
  intro pins s σ H xs us Q I r ⟨F, ds, e, ha, ok, k⟩
  match ds, ok, ha with
  | [.list ds], o2, .cons h1 .nil =>
    obtain ⟨p, vs, rfl, h2, h3⟩ := h1.lst e
    obtain ⟨ns, hn⟩ := Option.isSome_iff_exists.mp o2
    have ee := boolsOf_eq hn
    subst ee
    rw [h3.bools] at h2
    refine cr_any hc pins s σ H _ us Q I r ⟨p, ns, rfl, .inl (.inl h2), ?_⟩
    have : anyD [.list (ns.map PyData.bool)] = .bool (ns.any id) := by simp only [anyD, hn, Option.getD_some]
    rw [this] at k
    exact k _ H F (Grow.refl e) (.bl _)
theorem call_tupU : CallR X (.type "tuple") (rDn X.K seqOk tupD) := by
  intro pins s σ H xs us Q I r ⟨F, ds, e, ha, ok, k⟩
  match ds, ok, ha with
  | [.list a], _, .cons h1 .nil =>
    obtain ⟨p, vs, rfl, h2, h3⟩ := h1.lst e
    refine call_tuple_of pins s σ H _ us Q I r ⟨p, vs, rfl, .inl ⟨.inl (.inl h2), fun l hl => ?_⟩⟩
    have g := Grow.laid (o := .tup vs) e hl
    exact k _ _ _ g (.tup (.inl (.inl upd_same)) (h3.ex g.f))
  | [.tuple a], _, .cons h1 .nil =>
    obtain ⟨p, vs, rfl, h2, h2', h3⟩ := h1.tup e
    exact call_tuple_of pins s σ H _ us Q I r ⟨p, vs, rfl, .inr ⟨h2, k _ H F (Grow.refl e) (.tup h2' h3)⟩⟩
/-- list(xs): a new list, that may be owned -/
def rDl (K : PySem.W.Frag) (ok : List D → Prop) (f : List D → List D) : List V → Hp → VK → Prop := fun xs H Q => ∃ F ds, Ex F H ∧ AtCs K F H xs ds ∧ ok ds ∧ ∀ p vs, H p = none → AtAll K F vs (f ds) → Q (.ref p) (upd H p (.lst vs))
def itemsD : List D → List D
  | [.list a] => a
  | [.tuple a] => a
  | _ => []
theorem call_listU : CallR X (.type "list") (rDl X.K seqOk itemsD) := by
  intro pins s σ H xs us Q I r ⟨F, ds, e, ha, ok, k⟩
  match ds, ok, ha with
  | [.list a], _, .cons h1 .nil =>
    obtain ⟨p, vs, rfl, h2, h3⟩ := h1.lst e
    exact call_list_of pins s σ H _ us Q I r ⟨p, vs, rfl, .inl (.inl (.inl h2)), fun l hl => k l vs hl h3⟩
  | [.tuple a], _, .cons h1 .nil =>
    obtain ⟨p, vs, rfl, h2, _, h3⟩ := h1.tup e
    exact call_list_of pins s σ H _ us Q I r ⟨p, vs, rfl, .inr h2, fun l hl => k l vs hl h3⟩
def sortL : List D → List D
  | [.list ds] => (sortI ((intsOf ds).getD [])).map PyData.int
  | _ => []
theorem call_sortU : CallR X (.builtin "sorted") (rDl X.K sortOk sortL) := by
  intro pins s σ H xs us Q I r ⟨F, ds, e, ha, ok, k⟩
  match ds, ok, ha with
  | [.list ds], o2, .cons h1 .nil =>
    obtain ⟨p, vs, rfl, h2, h3⟩ := h1.lst e
    obtain ⟨ns, hn⟩ := Option.isSome_iff_exists.mp o2
    have ee := intsOf_eq hn
    subst ee
    rw [h3.ints] at h2
    refine cr_sortedI pins s σ H _ us Q I r ⟨p, ns, rfl, .inl (.inl h2), fun ns' q hp hs hq => ?_⟩
    have e1 : ns' = sortI ns := sorted_unique (hp.trans (sortI_perm ns).symm) hs (sortI_sorted ns)
    have : sortL [.list (ns.map PyData.int)] = (sortI ns).map PyData.int := by simp only [sortL, hn, Option.getD_some]
    rw [this] at k
    subst e1
    exact k q _ hq AtAll.of_ints
end
section
variable {K : PySem.W.Frag} {E : XK} {s s1 s2 s3 s' : S} {te ta tb ti : TE} {d x y : D} {σ : L2.St} {H F : Hp} {fp : Fp}
theorem ev_cl {ok : List D → Prop} {f : List D → List D} {t : TA} {ds : List D} (ha : EvA K t s ds s1) (h : ok ds) : Ev K (tCB (rDl K ok f) t) s (.list (f ds)) s1 := fun σ H F fp E Q q =>
  ha σ H F fp E _ fun vs H1 F1 fp1 E1 st1 a1 => ⟨F1, ds, E1.ex, AtCs.of a1, h, fun p ws hp hw => by
    have g : Grow F1 H1 (upd F1 p (.lst ws)) (upd H1 p (.lst ws)) := Grow.laid E1.ex hp
    exact q _ _ _ fp1 (E1.grow g) (st1.trans (E1.growS g)) (.lst upd_same (hw.ex g.f))⟩
theorem eo_cl {ok : List D → Prop} {f : List D → List D} {t : TA} {ds : List D} (ha : EvA K t s ds s1) (h : ok ds) : EvO K (tCB (rDl K ok f) t) s (lstR K none (f ds)) s1 := fun σ H F fp E Q q =>
  ha σ H F fp E _ fun vs H1 F1 fp1 E1 st1 a1 => ⟨F1, ds, E1.ex, AtCs.of a1, h, fun p ws hp hw =>
    q _ _ F1 fp1 (fun b => b = p) (E1.growH hp) (st1.trans (Step.growH hp)) ⟨p, ws, rfl, (fun _ z => nomatch z), fun _ => Iff.rfl, upd_same, hw⟩ (Own.laid E1 st1 hp)⟩
theorem ev_cl1 {ok : List D → Prop} {f : List D → List D} {i : Nat} {ov : Option V} {ds : List D} (hi : s.s[i]? = some (.res (lstR K ov ds))) (h : ok [.list ds]) : Ev K (tCB (rDl K ok f) (tCons (tVar i) tNil)) s (.list (f [.list ds])) s := fun σ H F fp E Q q => by
  obtain ⟨a, vs, h1, _, h4, h5⟩ := E.own hi
  exact ⟨.ref a, h1, F, [.list ds], E.ex, .cons (.inr ⟨_, _, _, rfl, rfl, h4, h5⟩) .nil, h, fun p ws hp hw => by
    have g : Grow F H (upd F p (.lst ws)) (upd H p (.lst ws)) := Grow.laid E.ex hp
    exact q _ _ _ fp (E.grow g) (E.growS g) (.lst upd_same (hw.ex g.f))⟩
theorem ev_lstRg {te : L2.St → Hp → (Int → Int → Hp → Prop) → Prop} {a b : Int} (h : ∀ σ H F fp, EnvW K σ s H F fp → ∀ Q : Int → Int → Hp → Prop, (∀ H' F' fp', EnvW K σ s1 H' F' fp' → Step H F fp H' F' fp' → Q a b H') → te σ H Q) (hr : RgOk a b) : Ev K (tLstRg te) s (.list (upTo a (b - a).toNat)) s1 := fun σ H F fp E Q q =>
  h σ H F fp E _ fun H1 F1 fp1 E1 st1 => ⟨hr, fun p hp => by
    have g : Grow F1 H1 (upd F1 p (.lst (rgV a b))) (upd H1 p (.lst (rgV a b))) := Grow.laid E1.ex hp
    refine q _ _ _ fp1 (E1.grow g) (st1.trans (E1.growS g)) (.lst upd_same ?_)
    have e1 : rgV a b = ((List.range (b - a).toNat).map fun (i : Nat) => a + (i : Int)).map V.int := by simp [rgV, Function.comp_def]
    have e2 : upTo a (b - a).toNat = ((List.range (b - a).toNat).map fun (i : Nat) => a + (i : Int)).map PyData.int := by simp [upTo, Function.comp_def]
    rw [e1, e2]
    exact AtAll.of_ints⟩
theorem ev_lstRg1 {n : Int} (h : Ev K ta s (.int n) s1) (hr : RgOk 0 n) : Ev K (tLstRg (tRg1 ta)) s (.list (upTo 0 n.toNat)) s1 := by
  have := ev_lstRg (K := K) (te := tRg1 ta) (s := s) (s1 := s1) (a := 0) (b := n) (fun σ H F fp E Q q => h σ H F fp E _ fun v H1 F1 fp1 E1 st1 a1 => by cases a1; exact ⟨n, rfl, q H1 F1 fp1 E1 st1⟩) hr
  simpa using this
theorem ev_lstRg2 {m n : Int} (h : Ev K ta s (.int m) s1) (h2 : Ev K tb s1 (.int n) s2) (hr : RgOk m n) : Ev K (tLstRg (tRg2 ta tb)) s (.list (upTo m (n - m).toNat)) s2 :=
  ev_lstRg (K := K) (te := tRg2 ta tb) (s := s) (s1 := s2) (a := m) (b := n) (fun σ H F fp E Q q => h σ H F fp E _ fun v H1 F1 fp1 E1 st1 a1 => h2 σ H1 F1 fp1 E1 _ fun w H2 F2 fp2 E2 st2 a2 => by cases a1; cases a2; exact ⟨m, n, rfl, rfl, q H2 F2 fp2 E2 (st1.trans st2)⟩) hr
/-! ### slices -/
def cutL {α : Type} (xs : List α) (lo hi : Option Int) : List α := (xs.drop (HT.sIx xs.length 0 lo)).take (HT.sIx xs.length xs.length hi - HT.sIx xs.length 0 lo)
theorem AtAll.cut {vs : List V} {ds : List D} {lo hi : Option Int} (h : AtAll K F vs ds) : AtAll K F (cutV vs lo hi) (cutL ds lo hi) := by
  unfold cutV cutL
  rw [h.length]
  exact (h.drop _).take _
def slOk : D → Prop
  | .list _ => True
  | .dict [(.none, .list ds)] => (intsOf ds).isSome = true
  | .tuple _ => True
  | .str z => z.length ≤ sizeLine
  | _ => False
def slD (lo hi : Option Int) : D → D
  | .list a => .list (cutL a lo hi)
  | .dict [(.none, .list a)] => .list (cutL a lo hi)
  | .tuple a => .tuple (cutL a lo hi)
  | .str z => .str (cutS z lo hi)
  | _ => .none
def rSlU (K : PySem.W.Frag) : V → Option Int → Option Int → Hp → VK → Prop := fun x lo hi H Q => ∃ F dx, Ex F H ∧ AtC K F H x dx ∧ slOk dx ∧ ∀ v H' F', Grow F H F' H' → At K F' v (slD lo hi dx) → Q v H'
theorem cut_whole {α : Type} {xs : List α} {lo hi : Option Int} (h : HT.sIx xs.length 0 lo = 0 ∧ HT.sIx xs.length xs.length hi = xs.length) : cutL xs lo hi = xs := by
  unfold cutL
  rw [h.1, h.2]; simp
theorem sl_U {X : Cx} : SlR X (rSlU X.K) := by
  intro pins s σ H x v vl vu lo hi sl Q I rx hs pl pu ⟨F, dx, e, hx, ok, k⟩
  match dx, ok with
  | .dict [(.none, .list a)], o1 =>
    obtain ⟨ns, hn⟩ := Option.isSome_iff_exists.mp o1
    have ee := intsOf_eq hn
    subst ee
    obtain ⟨p, rfl, h1⟩ := hx.scr e
    refine sl_list pins s σ H _ v vl vu lo hi sl Q I rx hs pl pu ⟨p, _, rfl, h1, fun q hq => ?_⟩
    have g := Grow.laid (o := .lst (cutV (ns.map V.int) lo hi)) e hq
    exact k _ _ _ g (.lst upd_same ((AtAll.of_ints (K := X.K) (F := F)).cut.ex g.f))
  | .list a, _ =>
    obtain ⟨p, vs, rfl, h1, h2⟩ := hx.lst e
    refine sl_list pins s σ H _ v vl vu lo hi sl Q I rx hs pl pu ⟨p, vs, rfl, .inl (.inl h1), fun q hq => ?_⟩
    have g := Grow.laid (o := .lst (cutV vs lo hi)) e hq
    exact k _ _ _ g (.lst upd_same (h2.cut.ex g.f))
  | .tuple a, _ =>
    obtain ⟨p, vs, rfl, h1, h1', h2⟩ := hx.tup e
    refine sl_tupA pins s σ H _ v vl vu lo hi sl Q I rx hs pl pu ⟨p, vs, rfl, h1, fun z => ?_, fun z q hq => ?_⟩
    · have : slD lo hi (.tuple a) = .tuple a := by
        show PyData.tuple (cutL a lo hi) = .tuple a
        rw [h2.length] at z
        rw [cut_whole z]
      rw [this] at k
      exact k _ H F (Grow.refl e) (.tup h1' h2)
    · have g := Grow.laid (o := .tup (cutV vs lo hi)) e hq
      exact k _ _ _ g (.tup (.inl (.inl upd_same)) (h2.cut.ex g.f))
  | .str z, ok =>
    have q1 := hx.str
    subst q1
    exact sl_str pins s σ H _ v vl vu lo hi sl Q I rx hs pl pu ⟨z, rfl, ok, k _ H F (Grow.refl e) (.str _)⟩
def EvP (K : PySem.W.Frag) (to : TO) (s : S) (o : Option Int) (s' : S) : Prop := ∀ σ H F fp, EnvW K σ s H F fp → ∀ Q : Option Int → Hp → Prop, (∀ H' F' fp', EnvW K σ s' H' F' fp' → Step H F fp H' F' fp' → Q o H') → to σ H Q
theorem ep_none : EvP K tNoPart s none s := fun σ H F fp E Q q => q H F fp E (Step.refl _ _ _)
theorem ep_some {i : Int} (h : Ev K te s (.int i) s1) : EvP K (tPart te) s (some i) s1 := fun σ H F fp E Q q =>
  h σ H F fp E _ fun v H1 F1 fp1 E1 st1 a1 => by cases a1; exact ⟨i, rfl, q H1 F1 fp1 E1 st1⟩
theorem ev_sl {tl th : TO} {lo hi : Option Int} (h : Ev K te s d s1) (h1 : EvP K tl s1 lo s2) (h2 : EvP K th s2 hi s3) (ok : slOk d) : Ev K (tSl (rSlU K) te tl th) s (slD lo hi d) s3 := fun σ H F fp E Q q =>
  h σ H F fp E _ fun v H1 F1 fp1 E1 st1 a1 => h1 σ H1 F1 fp1 E1 _ fun H2 F2 fp2 E2 st2 => h2 σ H2 F2 fp2 E2 _ fun H3 F3 fp3 E3 st3 =>
    ⟨F3, d, E3.ex, .inl ((a1.ex st2.ex).ex st3.ex), ok, fun v H' F' g a => q v H' F' fp3 (E3.grow g) (((st1.trans st2).trans st3).trans (E3.growS g)) a⟩
/-- of an owned list -/
theorem ev_slO {tl th : TO} {lo hi : Option Int} {i : Nat} {ov ov' : Option V} {ds ds' : List D} (h : s.s[i]? = some (.res (lstR K ov ds))) (h1 : EvP K tl s lo s2) (h2 : EvP K th s2 hi s3) (h3 : s3.s[i]? = some (.res (lstR K ov' ds'))) : Ev K (tSl (rSlU K) (tVar i) tl th) s (.list (cutL ds' lo hi)) s3 := fun σ H F fp E Q q => by
  obtain ⟨a, vs, e1, _⟩ := E.own h
  refine ⟨.ref a, e1, h1 σ H F fp E _ fun H2 F2 fp2 E2 st2 => h2 σ H2 F2 fp2 E2 _ fun H3 F3 fp3 E3 st3 => ?_⟩
  obtain ⟨a', vs', e1', _, h4, h5⟩ := E3.own h3
  rw [e1] at e1'
  cases e1'
  exact ⟨F3, .list ds', E3.ex, .inr ⟨_, _, _, rfl, rfl, h4, h5⟩, trivial, fun v H' F' g a => q v H' F' fp3 (E3.grow g) ((st2.trans st3).trans (E3.growS g)) a⟩
/-! ### owned lists are changed -/
theorem EnvW.put {i : Nat} {ov : Option V} {ds ds' : List D} {a : Addr} {vs' : List V} (E : EnvW K σ s H F fp) (hi : s.s[i]? = some (.res (lstR K ov ds))) (hσ : σ[i]? = some (some (.ref a))) (hv : AtAll K F vs' ds') :
    EnvW K σ (s.set i (.res (lstR K ov ds'))) (upd H a (.lst vs')) F fp ∧ Step H F fp (upd H a (.lst vs')) F fp := by
  obtain ⟨a', vs, h1, h2, h3, h4, h5⟩ := E.sl i _ hi
  rw [hσ] at h1
  cases h1
  have hfa : fp (.inl i) a := (h3 a).mpr rfl
  have hil : i < s.s.length := (List.getElem?_eq_some_iff.mp hi).1
  refine ⟨⟨fun b u q => ?_, by simp [S.set, E.len], fun j y hj => ?_, tabs_mut E.tb h4, E.dj, E.nf, fun j b h => ?_, E.nt⟩, ⟨Ex.refl F, fun _ h _ _ => h, fun b o h1 _ h2 => ?_, fun j b h => .inl ⟨j, h⟩, mut_ext h4⟩⟩
  · rw [upd_ne (ne_of_none q (E.nf _ a hfa))]; exact E.ex b u q
  · by_cases z : j = i
    · subst z
      have e1 : (s.s.set j (.res (lstR K ov ds')))[j]? = some (.res (lstR K ov ds')) := List.getElem?_set_self hil
      rw [show (s.set j (.res (lstR K ov ds'))).s = s.s.set j (.res (lstR K ov ds')) from rfl, e1] at hj
      cases hj
      exact ⟨a, vs', hσ, h2, h3, upd_same, hv⟩
    · have e1 : (s.s.set i (.res (lstR K ov ds')))[j]? = s.s[j]? := List.getElem?_set_ne (Ne.symm z)
      rw [show (s.set i (.res (lstR K ov ds'))).s = s.s.set i (.res (lstR K ov ds')) from rfl, e1] at hj
      exact (E.sl j y hj).mono (Ex.refl F) (fun b hb => upd_ne fun q => E.dj (.inl j) (.inl i) b (by intro w; cases w; exact z rfl) hb (q ▸ hfa)) (mut_ext h4)
  · by_cases z : b = a
    · subst z; exact ⟨_, upd_same, by intro ps z; cases z⟩
    · obtain ⟨o, q, n⟩ := E.th j b h; exact ⟨o, by rw [upd_ne z]; exact q, n⟩
  · have : b ≠ a := fun q => h2 (.inl i) (q ▸ hfa)
    rw [upd_ne this]; exact h1
/-- xs.append(e) -/
theorem run_append {i : Nat} {ov ov' : Option V} {ds ds' : List D} (hi : s.s[i]? = some (.res (lstR K ov ds))) (h : Ev K te s d s1) (hi1 : s1.s[i]? = some (.res (lstR K ov' ds'))) (hz : ds'.length < sizeLine) :
    Run K E (tDrop (tBM K "list" rAppend (tVar i) (tCons te tNil))) s (.nx (s1.set i (.res (lstR K ov' (ds' ++ [d]))))) := fun σ H F fp e Ed q => by
  obtain ⟨a, vs, h1, _, h4, h5⟩ := e.own hi
  refine ⟨.ref a, h1, .inl ⟨rfl, _, .inl (.inl h4)⟩, h σ H F fp e _ fun v H1 F1 fp1 e1 st1 a1 => ?_⟩
  obtain ⟨a', vs', h1', _, h4', h5'⟩ := e1.own hi1
  rw [h1] at h1'
  cases h1'
  refine ⟨a, vs', v, rfl, rfl, h4', by rw [h5'.length]; exact hz, ?_⟩
  obtain ⟨e2, st2⟩ := e1.put hi1 h1 (h5'.snoc a1)
  exact q σ _ F1 fp1 e2 (st1.trans st2)
/-- xs[k] = e -/
theorem run_setL {i j : Nat} {ov ov' : Option V} {ds ds' : List D} {k : Int} (h : Ev K te s d s1) (hi : s1.s[i]? = some (.res (lstR K ov ds))) (hk : Ev K ti s1 (.int k) s2) (hi2 : s2.s[i]? = some (.res (lstR K ov' ds'))) (hj : ixN ds'.length k = some j) :
    Run K E (tAsg te (gSub (tVar i) ti rSetL)) s (.nx (s2.set i (.res (lstR K ov' (ds'.set j d))))) := fun σ H F fp e Ed q =>
  h σ H F fp e _ fun v H1 F1 fp1 e1 st1 a1 => by
    obtain ⟨a, vs, h1, _⟩ := e1.own hi
    refine ⟨.ref a, h1, hk σ H1 F1 fp1 e1 _ fun w H2 F2 fp2 e2 st2 a2 => ?_⟩
    cases a2
    obtain ⟨a', vs', h1', _, h4', h5'⟩ := e2.own hi2
    rw [h1] at h1'
    cases h1'
    refine ⟨a, vs', k, j, rfl, rfl, h4', by rw [h5'.length]; exact hj, ?_⟩
    obtain ⟨e3, st3⟩ := e2.put hi2 h1 (AtAll.set (a1.ex st2.ex) j h5')
    exact q σ _ F2 fp2 e3 ((st1.trans st2).trans st3)
/-- return xs, xs owned -/
theorem run_retV {i : Nat} {r : Rs} (hi : s.s[i]? = some (.res r)) (hp : ∀ {F H : Hp} {P : Addr → Prop} {sv : Option (Option V)}, r.ok F H P sv → ∃ v, sv = some (some v)) : Run K E (tRet (tVar i)) s (.ro r (s.set i .unk)) := fun σ H F fp e Ed q => by
  have h := e.sl i _ hi
  obtain ⟨v, hv⟩ := hp h
  refine ⟨v, hv, q σ v H F (fpSet fp (.inl i) noP) (fp (.inl i)) ?_ Step.drop (by rw [← hv]; exact h) ⟨fun b hb => e.nf _ b hb, fun b j hb hj => ?_, fun b hb => e.th _ b hb, fun b hb => .inl ⟨_, hb⟩⟩⟩
  · have hil : i < s.s.length := (List.getElem?_eq_some_iff.mp hi).1
    refine ⟨e.ex, by simp [S.set, e.len], fun j y hj => ?_, e.tb, fun j k b hjk h1 h2 => ?_, fun j b h1 => ?_, fun j b h1 => ?_, e.nt⟩
    · by_cases z : j = i
      · subst z
        have e1 : (s.s.set j .unk)[j]? = some .unk := List.getElem?_set_self hil
        rw [show (s.set j .unk).s = s.s.set j .unk from rfl, e1] at hj
        cases hj; trivial
      · have e1 : (s.s.set i .unk)[j]? = s.s[j]? := List.getElem?_set_ne (Ne.symm z)
        rw [show (s.set i .unk).s = s.s.set i .unk from rfl, e1] at hj
        rw [fpSet_ne (by intro q; cases q; exact z rfl)]
        exact e.sl j y hj
    · by_cases z : j = .inl i
      · subst z; rw [fpSet_same] at h1; exact h1
      · rw [fpSet_ne z] at h1
        by_cases y : k = .inl i
        · subst y; rw [fpSet_same] at h2; exact h2
        · rw [fpSet_ne y] at h2; exact e.dj j k b hjk h1 h2
    · by_cases z : j = .inl i
      · subst z; rw [fpSet_same] at h1; exact h1.elim
      · rw [fpSet_ne z] at h1; exact e.nf j b h1
    · by_cases z : j = .inl i
      · subst z; rw [fpSet_same] at h1; exact h1.elim
      · rw [fpSet_ne z] at h1; exact e.th j b h1
  · by_cases z : j = .inl i
    · subst z; rw [fpSet_same] at hj; exact hj
    · rw [fpSet_ne z] at hj; exact e.dj j (.inl i) b z hj hb
theorem lst_has {ov : Option V} {ds : List D} {P : Addr → Prop} {sv : Option (Option V)} (h : (lstR K ov ds).ok F H P sv) : ∃ v, sv = some (some v) := by
  obtain ⟨a, vs, h1, _⟩ := h
  exact ⟨_, h1⟩
/-! ### isinstance -/
def tyD : D → String
  | .none => "NoneType"
  | .bool _ => "bool"
  | .int _ => "int"
  | .str _ => "str"
  | .list _ => "list"
  | .tuple _ => "tuple"
  | .dict _ => "dict"
def isiD (n : String) (d : D) : Bool := match n, d with
  | "int", .int _ => true
  | "int", .bool _ => true
  | "bool", .bool _ => true
  | "str", .str _ => true
  | "tuple", .tuple _ => true
  | "list", .list _ => true
  | "dict", .dict _ => true
  | _, _ => false
def kitAll (n : String) : Bool := kitB "NoneType" n == some (n == "NoneType") && (kitB "bool" n == some (n == "bool" || n == "int") && (kitB "int" n == some (n == "int") && (kitB "str" n == some (n == "str") && (kitB "list" n == some (n == "list") && (kitB "tuple" n == some (n == "tuple") && kitB "dict" n == some (n == "dict"))))))
theorem kit_int : kitAll "int" = true := by decide +kernel
theorem kit_bool : kitAll "bool" = true := by decide +kernel
theorem kit_str : kitAll "str" = true := by decide +kernel
theorem kit_tuple : kitAll "tuple" = true := by decide +kernel
theorem kit_dict : kitAll "dict" = true := by decide +kernel
def noScr : D → Bool
  | .dict ((.none, _) :: _) => false
  | _ => true
theorem at_ty {v : V} {d : D} (e : Ex F H) (h : At K F v d) (hn : noScr d = true) : TyX K H v (.type (tyD d)) := by
  cases h with
  | non => exact .base .non
  | bl b => exact .base (.bl b)
  | int i => exact .base (.int i)
  | str x => exact .base (.str x)
  | lst h t => exact .base (.lst (e _ _ h))
  | tup h t =>
    rcases e.sqT h with (h | ⟨o, h⟩) | ⟨o, its, n, h1, h2, _⟩
    · exact .base (.tup h)
    · exact .fTuple h
    · exact .kTuple h1 h2
  | dic h t => exact .base (.dK (e _ _ h))
  | scr h => cases hn
theorem ev_isi {n : String} (h : Ev K te s d s1) (hk : kitAll n = true) (hn : noScr d = true) (b : Bool) (hb : (match d with | .none => n == "NoneType" | .bool _ => (n == "bool" || n == "int") | .int _ => n == "int" | .str _ => n == "str" | .list _ => n == "list" | .tuple _ => n == "tuple" | .dict _ => n == "dict") = b) : Ev K (tCB (rIsi K) (tCons te (tCons (tC (.ty n)) tNil))) s (.bool b) s1 := fun σ H F fp E Q q =>
  h σ H F fp E _ fun v H1 F1 fp1 E1 st1 a1 => by
    refine ⟨v, .ty n, .type (tyD d), .type n, b, rfl, .ty n, at_ty E1.ex a1 hn, kit_ty ?_, q _ H1 F1 fp1 E1 st1 (.bl _)⟩
    simp only [kitAll, Bool.and_eq_true, beq_iff_eq] at hk
    obtain ⟨k1, k2, k3, k4, k5, k6, k7⟩ := hk
    subst hb
    cases d <;> assumption
end
end DL

namespace DL
open PySem PySem.Spec PyProof.Rows L2
section
variable {K : PySem.W.Frag} {E : XK} {s s1 s2 s' : S} {te : TE} {d : D} {σ : L2.St} {H F H1 : Hp} {fp : Fp} {C : Addr} {fl ret : Str} {t : XK → TE}
/-! ### lambdas: their tables turn, all else stays -/
theorem EnvW.lam (e : EnvW K σ s H F fp) (eN : LamX.ExtN H H1) (T1 : LamX.Tabs s.g H1) : EnvW K σ s H1 F fp ∧ Step H F fp H1 F fp := by
  have xk : ExtKeep H H1 := fun b φ h => eN b _ h (by intro ps z; cases z)
  have lv : ∀ b, Live H b → H1 b = H b := fun b ⟨o, q, n⟩ => by rw [q, eN b o q n]
  exact ⟨⟨fun a u q => eN a u (e.ex a u q) (e.nt a u q), e.len, fun i x h => (e.sl i x h).mono (Ex.refl F) (fun b hb => lv b (e.th _ b hb)) xk, T1, e.dj, e.nf, fun i b h => by
      obtain ⟨o, q, n⟩ := e.th i b h; exact ⟨o, eN b o q n, n⟩, e.nt⟩,
    ⟨Ex.refl F, fun _ h _ _ => h, fun b o h n _ => eN b o h n, fun i b h => .inl ⟨i, h⟩, xk⟩⟩
theorem ev_lamX (h : ∀ E, EvR K E (t E) s C fl d s') : Ev K (LamX.tLam s.g (BX.TRef K C fl ret) t) s d s' := fun σ H F fp e Q q =>
  ⟨e.tb, fun H1 eN T1 => by
    obtain ⟨e1, st1⟩ := e.lam eN T1
    exact h _ σ H1 F fp e1 _ fun dd v H' F' fp' e' st' a b => ⟨rfl, dd, [(fl, v)], v, rfl, a, by simp [List.lookup], q v H' F' fp' e' (st1.trans st') b⟩⟩
theorem ev_lamR (h : ∀ E, Ev K (t E) s d s') : Ev K (LamX.tLam s.g (BX.TRef K C fl ret) t) s (.str ret) s' := fun σ H F fp e Q q =>
  ⟨e.tb, fun H1 eN T1 => by
    obtain ⟨e1, st1⟩ := e.lam eN T1
    exact h _ σ H1 F fp e1 _ fun v H' F' fp' e' st' a => q _ H' F' fp' e' (st1.trans st') (.str ret)⟩
end
end DL

namespace DL
open PySem PySem.Spec PyProof.Rows L2
/-! ### calls with keywords: p puts the values in the parameters' order -/
def arr {α : Type} (x : α) (p : List Nat) (l : List α) : List α := p.map fun i => l.getD i x
structure KwB (K : PySem.W.Frag) (fd : FuncData) (ps ks : List Str) (n : Nat) (p : List Nat) : Prop where
  to : ∀ (s : Shared) (us ws : List Value), us.length = n → ws.length = ks.length → BindsTo s fd ⟨us, ks.zip ws⟩ (ps.zip (arr .none p (us ++ ws)))
  lt : ∀ i ∈ p, i < n + ks.length
  len : p.length = ps.length
def tCallM (sp : Sp) (n m : Nat) (p : List Nat) (E : XK) (t tk : TA) : TE := fun σ H Q => t σ H fun vs H1 => tk σ H1 fun zs H2 => vs.length = n ∧ zs.length = m ∧ sp (arr .non p (vs ++ zs)) H2 Q E
theorem vals_arr {vs : List V} {us : List Value} (r : Vals vs us) : ∀ {p : List Nat}, (∀ i ∈ p, i < vs.length) → Vals (arr .non p vs) (arr .none p us)
  | [], _ => .nil
  | i :: p, h => by
    have hi : i < vs.length := h i (List.mem_cons_self)
    have hi2 : i < us.length := by rw [← r.length]; exact hi
    refine .cons ?_ (vals_arr r fun j hj => h j (List.mem_cons_of_mem _ hj))
    obtain ⟨u, h1, h2⟩ := r.get (i := i) (x := vs[i]) (by simp [hi])
    have e1 : vs.getD i .non = vs[i] := by simp [List.getD, hi]
    have e2 : us.getD i .none = u := by simp [List.getD, h1]
    show L2.RelV (vs.getD i .non) (us.getD i .none)
    rw [e1, e2]; exact h2
theorem atAll_arr {K : PySem.W.Frag} {F : Hp} {vs : List V} {ds : List D} (r : AtAll K F vs ds) : ∀ {p : List Nat}, (∀ i ∈ p, i < vs.length) → AtAll K F (arr .non p vs) (arr .none p ds)
  | [], _ => .nil
  | i :: p, h => by
    have hi : i < vs.length := h i (List.mem_cons_self)
    refine .cons ?_ (atAll_arr r fun j hj => h j (List.mem_cons_of_mem _ hj))
    obtain ⟨d, h1, h2⟩ := r.getV (i := i) (v := vs[i]) (by simp [hi])
    have e1 : vs.getD i .non = vs[i] := by simp [List.getD, hi]
    have e2 : ds.getD i .none = d := by simp [List.getD, h1]
    show At K F (vs.getD i .non) (ds.getD i .none)
    rw [e1, e2]; exact h2
section
variable {X : Cx} {CX : CXT} {k n : Nat} {f : Addr} {fd : FuncData} {ps ks : List Str} {sp : Sp} {E : XK} {x : Str} {p pos : Pos} {e : Expr} {es : List Expr} {kws : List Keyword} {t tk : TA} {pm : List Nat}
theorem run_fnM {pins : List (Addr × Obj)} {σ : L2.St} {H : Hp} {s : Shared} {Q : VK} {us ws : List Value} {vs zs : List V} (F : FnOk X.prog X.w X.K X.mg X.base CX k f fd ps sp) (hr : Room k X.A) (hb : KwB X.K fd ps ks n pm) (hx : Passes CX X E)
    (I : Inv X pins σ H s) (r : Vals vs us) (rz : Vals zs ws) (l1 : vs.length = n) (l2 : zs.length = ks.length) (h : sp (arr .non pm (vs ++ zs)) H Q E) : wpAny (model X.prog X.w) X.A (call (.ref f) us (ks.zip ws)) (EP X pins σ Q) X.xe s := by
  have r2 := vals_arr (p := pm) (r.append rz) (fun i hi => by rw [List.length_append, l1, l2]; exact hb.lt i hi)
  refine wpAny_call (codeAny_mono (F.run X.A X.stack s H ⟨us, ks.zip ws⟩ _ _ Q E hr I.env0 (hb.to s us ws (r.length.symm.trans l1) (rz.length.symm.trans l2)) r2 h) fun r s' hq => ?_)
  cases r with
  | error e => exact hx pins σ H s e s' I hq
  | ok fl =>
    cases fl with
    | ret u => exact I.after hq
    | next => exact False.elim hq
    | brk => exact False.elim hq
    | cont => exact False.elim hq
theorem pe_callM (F : FnOk X.prog X.w X.K X.mg X.base CX k f fd ps sp) (hr : Room k X.A) (hg : Gl X x) (hm : X.mg x = some (.ref f)) (hk : PySem.W.keepIn X.K (.ref f) = true) (hb : KwB X.K fd ps ks n pm) (hx : Passes CX X E)
    (ha : PA X (e :: es) t) (hkw : PK X kws tk) (hall : (backToKw pos (keywordEach kws X.env)).all (·.1.isSome) = true := by rfl) (hks : (backToKw pos (keywordEach kws X.env)).filterMap (·.1) = ks := by rfl)
    (hdb : (x == ("__debug__" : Str)) = false := by decide) (he : starEach (e :: es) X.env = (false, eval e X.env) :: starEach es X.env := by rfl)
    (hpl : ((backTo pos (starEach (e :: es) X.env)).any (·.1) || (backToKw pos (keywordEach kws X.env)).any (·.1.isNone)) = false := by rfl)
    {m : Nat} (hl : ks.length = m := by rfl) : PE X (.Call (.Name x p) (e :: es) kws pos) (tCallM sp n m pm E t tk) := by
  subst hl
  refine ⟨fun pins s σ H Q I h => ?_⟩
  refine wpAny_Call_Name_kw (ld_glob I hg hm ?_ hdb)
  refine PySem.W.callWith_KW (h₀ := X.base) I.ok.mod.kin hk hall (thn (ha.run pos pins s σ H _ I h) fun us s1 ⟨vs, H1, I1, r, q⟩ => ?_) hpl he
  refine thn (hkw.run pos pins s1 σ H1 _ I1 q) fun ws s2 ⟨zs, H2, I2, rz, l1, l2, q2⟩ => ⟨I2.kIn, ?_⟩
  rw [hks]
  exact run_fnM F hr hb hx I2 r rz l1 l2 q2
theorem pe_callM0 (F : FnOk X.prog X.w X.K X.mg X.base CX k f fd ps sp) (hr : Room k X.A) (hg : Gl X x) (hm : X.mg x = some (.ref f)) (hk : PySem.W.keepIn X.K (.ref f) = true) (hb : KwB X.K fd ps ks 0 pm) (hx : Passes CX X E)
    (hkw : PK X kws tk) (hall : (backToKw pos (keywordEach kws X.env)).all (·.1.isSome) = true := by rfl) (hks : (backToKw pos (keywordEach kws X.env)).filterMap (·.1) = ks := by rfl)
    (hdb : (x == ("__debug__" : Str)) = false := by decide)
    (hpl : ((backTo pos (starEach [] X.env)).any (·.1) || (backToKw pos (keywordEach kws X.env)).any (·.1.isNone)) = false := by rfl)
    {m : Nat} (hl : ks.length = m := by rfl) : PE X (.Call (.Name x p) [] kws pos) (tCallM sp 0 m pm E tNil tk) := by
  subst hl
  refine ⟨fun pins s σ H Q I h => ?_⟩
  refine wpAny_Call_Name_kw (ld_glob I hg hm ?_ hdb)
  refine PySem.W.callWith_KW0 (h₀ := X.base) I.ok.mod.kin hk hall ?_ hpl
  refine thn (hkw.run pos pins s σ H _ I h) fun ws s2 ⟨zs, H2, I2, rz, l1, l2, q2⟩ => ⟨I2.kIn, ?_⟩
  rw [hks]
  exact run_fnM F hr hb hx I2 .nil rz l1 l2 q2
end
section
variable {K : PySem.W.Frag} {E : XK} {s s1 s2 s' : S} {te : TE} {d : D}
theorem ev_callM {R : FR} {ta tk : TA} {ds es : List D} {n m : Nat} {p : List Nat} (ha : EvA K ta s ds s1) (hk : EvA K tk s1 es s2) (hn : ds.length = n) (hm : es.length = m) (hp : ∀ i ∈ p, i < n + m) (hR : R ⟨(arr .none p (ds ++ es)).map .dat, s2.g⟩ (.rt d ⟨(arr .none p (ds ++ es)).map .dat, s2.g⟩)) : Ev K (tCallM (spF K R) n m p E ta tk) s d s2 := fun σ H F fp e Q q =>
  ha σ H F fp e _ fun vs H1 F1 fp1 e1 st1 a1 => hk σ H1 F1 fp1 e1 _ fun zs H2 F2 fp2 e2 st2 a2 => by
    have l1 := a1.length
    have l2 := a2.length
    refine ⟨by omega, by omega, _, F2, noF, _, env_dat e2 (atAll_arr ((a1.ex st2.ex).append a2) fun i hi => by have := hp i hi; rw [List.length_append]; omega), hR, fun v H' F' fp' e' st a => ?_⟩
    obtain ⟨e3, st3⟩ := frame0 e2 e' st rfl
    exact q v H' F' fp2 e3 ((st1.trans st2).trans st3) a
/-- *xs in a display -/
theorem ea_starT {tr : TA} {xs ds : List D} (h : Ev K te s (.tuple xs) s1) (hr : EvA K tr s1 ds s2) : EvA K (StX.tStar K te tr) s (xs ++ ds) s2 := fun σ H F fp E Q q =>
  h σ H F fp E _ fun v H1 F1 fp1 E1 st1 a1 => by
    cases a1 with
    | tup h1 h2 => exact ⟨_, _, rfl, .inl (E1.ex.sqT h1), hr σ H1 F1 fp1 E1 _ fun vs H2 F2 fp2 E2 st2 a2 => q _ H2 F2 fp2 E2 (st1.trans st2) ((h2.ex st2.ex).append a2)⟩
end
/-! ### what passes a def, a lambda, a block -/
theorem pass_e {X : Cx} {E : XK} (tk : Takes X (fun cls d _ H => E cls d H)) : Passes (L2.CX X.prog X.w) X E := passes_call tk fun _ _ _ _ h => h
/-- a def whose code object is known -/
structure FunC (K : PySem.W.Frag) (x qual : Str) (st : Stmt) (f : Addr) (fd : FuncData) (c : Addr) : Prop where
  ex : ∃ (oc : Value) (od : Option Addr) (kV doc pm : Value) (an : Option Addr) (ct : Value) (osl : Array (Option Value)),
    fd = PySem.W.fnOf x qual (defArgs st) (defBody st) (defScope st) .none kV doc pm an (.ref c) ct ∧ K.lookup f = some ⟨oc, od, .func fd, osl⟩ ∧ PySem.W.codeIn K (.ref c) qual = true
  kp : PySem.W.keepIn K (.ref f) = true
theorem FunC.toFun {K : PySem.W.Frag} {x qual : Str} {st : Stmt} {f : Addr} {fd : FuncData} {c : Addr} (F : FunC K x qual st f fd c) : Fun K x qual st f fd := by
  obtain ⟨oc, od, kV, doc, pm, an, ct, osl, h1, h2, h3⟩ := F.ex
  exact ⟨⟨oc, od, kV, doc, pm, an, .ref c, ct, osl, h1, h2, h3⟩, F.kp⟩
section
variable {P : Program} {w : World} {K : PySem.W.Frag} {mg : Str → Option Value} {base : Heap}
theorem FunC.okX {x qual : Str} {st : Stmt} {f : Addr} {fd : FuncData} {c : Addr} {N ps : List Str} {k : Nat} {sp : Sp} (F : FunC K x qual st f fd c) (S : FnScope N ps (defScope st)) (len : ∀ vs H Q E, sp vs H Q E → vs.length = ps.length)
    (hbody : ∀ (A : Around) (outer : List Env) (s : Shared) (H : Hp) (vs : List V) (Q : VK) (E : XK), Room k (A.deeper (envOfC qual (defScope st) s.heap.objs.size f (.ref c))) → sp vs H Q E →
      ∃ t, PSs (cxOf (L2.CX P w) P w K mg base N qual (defScope st) f (.ref c) A outer s H E) (defBody st) t ∧ t { nx := fun _ H' => Q .non H', rt := Q } (L2.start N vs) H) : FnOk P w K mg base (L2.CX P w) (k + 1) f fd ps sp := by
  obtain ⟨oc, od, kV, doc, pm, an, ct, osl, rfl, lk, hcd⟩ := F.ex
  exact fn_of lk hcd S len fun A outer s H vs Q E hr hsp => hbody A outer s H vs Q E hr hsp
end
end DL

namespace DL
open PySem PySem.Spec PyProof.Rows L2
theorem hu65 {X : Cx} {k : Nat} (hr : Room k X.A) : X.A.units + 65 < cLine := by have := hr.un; omega
/-! ### argument lists with owned things -/
structure OwnL (H : Hp) (fp : Fp) (H' F' : Hp) (fp' : Fp) (P : Nat → Addr → Prop) : Prop where
  own : ∀ i, Own H fp H' F' fp' (P i)
  dj : ∀ i j b, i ≠ j → P i b → ¬ P j b
def EvX (K : PySem.W.Frag) (ta : TA) (s : S) (xs : List Sl) (s' : S) : Prop := ∀ σ H F fp, EnvW K σ s H F fp → ∀ Q : List V → Hp → Prop,
  (∀ vs H' F' fp' P, EnvW K σ s' H' F' fp' → Step H F fp H' F' fp' → vs.length = xs.length → (∀ (i : Nat) (x : Sl), xs[i]? = some x → SlOk K F' H' (P i) (vs[i]?.map some) x) → OwnL H fp H' F' fp' P → Q vs H') → ta σ H Q
theorem Own.none {H F H' : Hp} {fp fp' : Fp} : Own H fp H' F fp' noP := ⟨fun _ h => h.elim, fun _ _ h => h.elim, fun _ h => h.elim, fun _ h => h.elim⟩
section
variable {K : PySem.W.Frag} {E : XK} {s s1 s2 s' : S} {te : TE} {d : D} {o : Out} {t : TS} {σ : L2.St} {H F : Hp} {fp : Fp}
theorem ex_nil : EvX K tNil s [] s := fun σ H F fp e Q q => q [] H F fp (fun _ => noP) e (Step.refl _ _ _) rfl (fun i x h => by simp at h) ⟨fun _ => Own.none, fun _ _ _ _ h => h.elim⟩
theorem ex_dat {tr : TA} {xs : List Sl} (h : Ev K te s d s1) (hr : EvX K tr s1 xs s2) : EvX K (tCons te tr) s (.dat d :: xs) s2 := fun σ H F fp e Q q =>
  h σ H F fp e _ fun v H1 F1 fp1 e1 st1 a1 => hr σ H1 F1 fp1 e1 _ fun vs H2 F2 fp2 P e2 st2 l2 hx ol => by
    refine q (v :: vs) H2 F2 fp2 (fun i => match i with | 0 => noP | i + 1 => P i) e2 (st1.trans st2) (by simp [l2]) (fun i x hi => ?_) ⟨fun i => ?_, fun i j b hij hi hj => ?_⟩
    · cases i with
      | zero => simp at hi; subst hi; exact ⟨v, rfl, a1.ex st2.ex⟩
      | succ i => exact hx i x (by simpa using hi)
    · cases i with
      | zero => exact Own.none
      | succ i => exact (ol.own i).step st1
    · cases i with
      | zero => exact hi.elim
      | succ i => cases j with
        | zero => exact hj.elim
        | succ j => exact ol.dj i j b (fun z => hij (by rw [z])) hi hj
theorem ex_res {tr : TA} {xs : List Sl} {r : Rs} (h : EvO K te s r s1) (hr : EvX K tr s1 xs s2) : EvX K (tCons te tr) s (.res r :: xs) s2 := fun σ H F fp e Q q =>
  h σ H F fp e _ fun v H1 F1 fp1 P1 e1 st1 a1 o1 => hr σ H1 F1 fp1 e1 _ fun vs H2 F2 fp2 P e2 st2 l2 hx ol => by
    have nfp : ∀ b, P1 b → ∀ i, ¬ fp2 i b := fun b hb i hi => by
      rcases st2.fpn i b hi with ⟨j, hj⟩ | hn
      · exact o1.dj b j hb hj
      · exact hn (o1.th b hb)
    have keep : ∀ b, P1 b → H2 b = H1 b := fun b hb => by
      obtain ⟨u, hu, hn⟩ := o1.th b hb
      rw [st2.keep b u hu hn (o1.dj b · hb), hu]
    have oP : Own H fp H2 F2 fp2 P1 := ⟨fun b hb => st2.new b (o1.nf b hb) (o1.th b hb) (o1.dj b · hb), fun b i hb => nfp b hb i, fun b hb => st2.live (o1.th b hb) (o1.dj b · hb), o1.new⟩
    have dj : ∀ i b, P1 b → ¬ P i b := fun i b h1 h2 => by
      rcases (ol.own i).new b h2 with ⟨j, hj⟩ | hn
      · exact o1.dj b j h1 hj
      · exact hn (o1.th b h1)
    refine q (v :: vs) H2 F2 fp2 (fun i => match i with | 0 => P1 | i + 1 => P i) e2 (st1.trans st2) (by simp [l2]) (fun i x hi => ?_) ⟨fun i => ?_, fun i j b hij hi hj => ?_⟩
    · cases i with
      | zero => simp at hi; subst hi; exact r.mono a1 st2.ex keep st2.ext
      | succ i => exact hx i x (by simpa using hi)
    · cases i with
      | zero => exact oP
      | succ i => exact (ol.own i).step st1
    · cases i with
      | zero => cases j with
        | zero => exact hij rfl
        | succ j => exact dj j b hi hj
      | succ i => cases j with
        | zero => exact dj i b hj hi
        | succ j => exact ol.dj i j b (fun z => hij (by rw [z])) hi hj
/-- a slot gets what is at hand: data or an owned thing -/
theorem EnvW.setX {H0 : Hp} {fp0 : Fp} {i : Nat} {v : V} {x : Sl} {P : Addr → Prop} (E : EnvW K σ s H F fp) (h : SlOk K F H P (some (some v)) x) (o : Own H0 fp0 H F fp P) : EnvW K (σ.set i (some v)) (s.set i x) H F (fpSet fp (.inl i) P) where
  ex := E.ex
  len := by simp [S.set, E.len]
  sl := fun j y hj => by
    by_cases z : j = i
    · subst z
      have hl : j < s.s.length := by
        have := (List.getElem?_eq_some_iff.mp hj).1
        simpa [S.set] using this
      have e1 : (s.s.set j x)[j]? = some x := List.getElem?_set_self hl
      rw [show (s.set j x).s = s.s.set j x from rfl, e1] at hj
      cases hj
      rw [fpSet_same, List.getElem?_set_self (by rw [E.len]; exact hl)]
      exact h
    · have e1 : (s.s.set i x)[j]? = s.s[j]? := List.getElem?_set_ne (Ne.symm z)
      rw [show (s.set i x).s = s.s.set i x from rfl, e1] at hj
      rw [fpSet_ne (by intro q; cases q; exact z rfl), List.getElem?_set_ne (Ne.symm z)]
      exact E.sl j y hj
  tb := E.tb
  dj := fun j k b hjk h1 h2 => by
    by_cases z : j = .inl i
    · subst z; rw [fpSet_same] at h1; rw [fpSet_ne (Ne.symm hjk)] at h2; exact o.dj b k h1 h2
    · rw [fpSet_ne z] at h1
      by_cases y : k = .inl i
      · subst y; rw [fpSet_same] at h2; exact o.dj b j h2 h1
      · rw [fpSet_ne y] at h2; exact E.dj j k b hjk h1 h2
  nf := fun j b h1 => by
    by_cases z : j = .inl i
    · subst z; rw [fpSet_same] at h1; exact o.nf b h1
    · rw [fpSet_ne z] at h1; exact E.nf j b h1
  th := fun j b h1 => by
    by_cases z : j = .inl i
    · subst z; rw [fpSet_same] at h1; exact o.th b h1
    · rw [fpSet_ne z] at h1; exact E.th j b h1
  nt := E.nt
theorem Own.fps {H' F' H0 : Hp} {fp0 fp' : Fp} {P P' : Addr → Prop} {i : Ix} (o : Own H0 fp0 H' F' fp' P) (d : ∀ b, P b → ¬ P' b) : Own H0 fp0 H' F' (fpSet fp' i P') P := ⟨o.nf, fun b j hb hj => by
  by_cases z : j = i
  · subst z; rw [fpSet_same] at hj; exact d b hb hj
  · rw [fpSet_ne z] at hj; exact o.dj b j hb hj, o.th, o.new⟩
theorem run_parX {i j : Nat} {x1 x2 : Sl} {ta : TA} (h : EvX K ta s [x1, x2] s1) : Run K E (tPar i j ta) s (.nx ((s1.set i x1).set j x2)) := fun σ H F fp e Ed q =>
  h σ H F fp e _ fun vs H' F' fp' P e' st l hx ol => by
    match vs, l with
    | [v1, v2], _ =>
      have z1 := hx 0 x1 rfl
      have z2 := hx 1 x2 rfl
      refine ⟨_, _, rfl, q _ H' F' _ ((e'.setX (i := i) z1 (ol.own 0)).setX (i := j) z2 ((ol.own 1).fps (ol.dj 1 0 · (by decide)))) ((st.own (ol.own 0)).own ((ol.own 1).fps (ol.dj 1 0 · (by decide))))⟩
theorem run_parX3 {i j k : Nat} {x1 x2 x3 : Sl} {ta : TA} (h : EvX K ta s [x1, x2, x3] s1) : Run K E (tPar3 i j k ta) s (.nx (((s1.set i x1).set j x2).set k x3)) := fun σ H F fp e Ed q =>
  h σ H F fp e _ fun vs H' F' fp' P e' st l hx ol => by
    match vs, l with
    | [v1, v2, v3], _ =>
      have z1 := hx 0 x1 rfl
      have z2 := hx 1 x2 rfl
      have z3 := hx 2 x3 rfl
      have o1 := ol.own 0
      have o2 := (ol.own 1).fps (i := .inl i) (ol.dj 1 0 · (by decide))
      have o3 := ((ol.own 2).fps (i := .inl i) (ol.dj 2 0 · (by decide))).fps (i := .inl j) (ol.dj 2 1 · (by decide))
      exact ⟨_, _, _, rfl, q _ H' F' _ (((e'.setX (i := i) z1 o1).setX (i := j) z2 o2).setX (i := k) z3 o3) (((st.own o1).own o2).own o3)⟩
/-! ### an owned list is given up: from now on it is data -/
theorem EnvW.freeze {i : Nat} {ov : Option V} {ds : List D} (e : EnvW K σ s H F fp) (hi : s.s[i]? = some (.res (lstR K ov ds))) : ∃ F', EnvW K σ (s.set i (.dat (.list ds))) H F' (fpSet fp (.inl i) noP) ∧ Step H F fp H F' (fpSet fp (.inl i) noP) := by
  obtain ⟨a, vs, h1, h2, h3, h4⟩ := e.own hi
  have hfa : fp (.inl i) a := (h2 a).mpr rfl
  have hFa : F a = none := e.nf _ a hfa
  have eF : Ex F (upd F a (.lst vs)) := Ex.new hFa
  have hil : i < s.s.length := (List.getElem?_eq_some_iff.mp hi).1
  have nfa : ∀ j b, j ≠ .inl i → fp j b → b ≠ a := fun j b hj hb z => e.dj j (.inl i) b hj hb (z ▸ hfa)
  refine ⟨upd F a (.lst vs), ⟨fun b u q => ?_, by simp [S.set, e.len], fun j y hj => ?_, e.tb, fun j k b hjk h1 h2 => ?_, fun j b hb => ?_, fun j b hb => ?_, fun b o q => ?_⟩, ⟨eF, fun b h1 h2 h3 => ?_, fun b o h1 _ _ => h1, fun j b hb => ?_, fun _ _ h => h⟩⟩
  · by_cases z : b = a
    · subst z; rw [upd_same] at q; cases q; exact h3
    · rw [upd_ne z] at q; exact e.ex b u q
  · by_cases z : j = i
    · subst z
      have e1 : (s.s.set j (.dat (.list ds)))[j]? = some (.dat (.list ds)) := List.getElem?_set_self hil
      rw [show (s.set j (.dat (.list ds))).s = s.s.set j (.dat (.list ds)) from rfl, e1] at hj
      cases hj
      exact ⟨.ref a, h1, .lst upd_same (h4.ex eF)⟩
    · have e1 : (s.s.set i (.dat (.list ds)))[j]? = s.s[j]? := List.getElem?_set_ne (Ne.symm z)
      rw [show (s.set i (.dat (.list ds))).s = s.s.set i (.dat (.list ds)) from rfl, e1] at hj
      rw [fpSet_ne (by intro q; cases q; exact z rfl)]
      exact (e.sl j y hj).mono eF (fun _ _ => rfl) (fun _ _ h => h)
  · by_cases z : j = .inl i
    · subst z; rw [fpSet_same] at h1; exact h1
    · rw [fpSet_ne z] at h1
      by_cases y : k = .inl i
      · subst y; rw [fpSet_same] at h2; exact h2
      · rw [fpSet_ne y] at h2; exact e.dj j k b hjk h1 h2
  · by_cases z : j = .inl i
    · subst z; rw [fpSet_same] at hb; exact hb.elim
    · rw [fpSet_ne z] at hb; rw [upd_ne (nfa j b z hb)]; exact e.nf j b hb
  · by_cases z : j = .inl i
    · subst z; rw [fpSet_same] at hb; exact hb.elim
    · rw [fpSet_ne z] at hb; exact e.th j b hb
  · by_cases z : b = a
    · subst z; rw [upd_same] at q; cases q; intro ps w; cases w
    · rw [upd_ne z] at q; exact e.nt b o q
  · have : b ≠ a := fun z => h3 (.inl i) (z ▸ hfa)
    rw [upd_ne this]; exact h1
  · by_cases z : j = .inl i
    · subst z; rw [fpSet_same] at hb; exact hb.elim
    · rw [fpSet_ne z] at hb; exact .inl ⟨j, hb⟩
theorem run_frz {i : Nat} {ov : Option V} {ds : List D} (hi : s.s[i]? = some (.res (lstR K ov ds))) (h : Run K E t (s.set i (.dat (.list ds))) o) : Run K E t s o := fun σ H F fp e Ed q => by
  obtain ⟨F', e', st⟩ := e.freeze hi
  exact h σ H F' _ e' Ed (q.step st)
theorem ev_frz {i : Nat} {ov : Option V} {ds : List D} (hi : s.s[i]? = some (.res (lstR K ov ds))) (h : Ev K te (s.set i (.dat (.list ds))) d s') : Ev K te s d s' := fun σ H F fp e Q q => by
  obtain ⟨F', e', st⟩ := e.freeze hi
  exact h σ H F' _ e' Q fun v H2 F2 fp2 e2 st2 a => q v H2 F2 fp2 e2 (st.trans st2) a
/-! ### x += n -/
theorem run_aug {i : Nat} {f : Int → Int → Int} {a b : Int} (hi : s.s[i]? = some (.dat (.int a))) (h : Ev K te s (.int b) s1) : Run K E (tAug i te (ipI f)) s (.nx (s1.set i (.dat (.int (f a b))))) := fun σ H F fp e Ed q => by
  obtain ⟨v, h1, h2⟩ := e.sl i _ hi
  cases h2
  refine ⟨_, h1, h σ H F fp e _ fun w H1 F1 fp1 e1 st1 a1 => ?_⟩
  cases a1
  exact ⟨a, b, rfl, rfl, q _ H1 F1 _ (e1.set (i := i) (x := .dat (.int (f a b))) ⟨_, rfl, .int _⟩) (st1.trans Step.drop)⟩
/-! ### operators in short -/
variable {ta tb tc : TE} {x y : D} {a b c : Int}
theorem ev_addI (ha : Ev K ta s (.int a) s1) (hb : Ev K tb s1 (.int b) s2) : Ev K (tOp (rD2 K addOk addD) ta tb) s (.int (a + b)) s2 := ev_op ha hb trivial
theorem ev_subI (ha : Ev K ta s (.int a) s1) (hb : Ev K tb s1 (.int b) s2) : Ev K (tOp (rD2 K subOk subD) ta tb) s (.int (a - b)) s2 := ev_op ha hb trivial
theorem ev_mulI (ha : Ev K ta s (.int a) s1) (hb : Ev K tb s1 (.int b) s2) (h : CMul a b) : Ev K (tOp (rD2 K mulOk mulD) ta tb) s (.int (a * b)) s2 := ev_op ha hb h
theorem ev_divI (ha : Ev K ta s (.int a) s1) (hb : Ev K tb s1 (.int b) s2) (h : 0 < b ∧ b < 1073741824) : Ev K (tOp (rD2 K divOk divD) ta tb) s (.int (a / b)) s2 := ev_op ha hb h
theorem ev_modI (ha : Ev K ta s (.int a) s1) (hb : Ev K tb s1 (.int b) s2) (h : 0 < b) : Ev K (tOp (rD2 K modOk modD) ta tb) s (.int (a % b)) s2 := ev_op ha hb h
theorem ev_powI (ha : Ev K ta s (.int a) s1) (hb : Ev K tb s1 (.int b) s2) (h : CPow a b) : Ev K (tOp (rD2 K powOk powD) ta tb) s (.int (a ^ b.toNat)) s2 := ev_op ha hb h
theorem ev_ltI (ha : Ev K ta s (.int a) s1) (hb : Ev K tb s1 (.int b) s2) : Ev K (tOp (rD2 K ltXOk ltXD) ta tb) s (.bool (decide (a < b))) s2 := ev_op ha hb trivial
theorem ev_leI (ha : Ev K ta s (.int a) s1) (hb : Ev K tb s1 (.int b) s2) : Ev K (tOp (rD2 K ordOk leD) ta tb) s (.bool (decide (a ≤ b))) s2 := ev_op ha hb trivial
theorem ev_gtI (ha : Ev K ta s (.int a) s1) (hb : Ev K tb s1 (.int b) s2) : Ev K (tOp (rD2 K ordOk gtD) ta tb) s (.bool (decide (b < a))) s2 := ev_op ha hb trivial
theorem ev_geI (ha : Ev K ta s (.int a) s1) (hb : Ev K tb s1 (.int b) s2) : Ev K (tOp (rD2 K ordOk geD) ta tb) s (.bool (decide (b ≤ a))) s2 := ev_op ha hb trivial
theorem beq_dec {a b : Int} : (a == b) = decide (a = b) := by
  by_cases h : a = b <;> simp [h]
theorem ev_eqI (ha : Ev K ta s (.int a) s1) (hb : Ev K tb s1 (.int b) s2) : Ev K (tOp (rD2 K eqOk eqD) ta tb) s (.bool (decide (a = b))) s2 := by
  have := ev_op (ok := eqOk) (f := eqD) ha hb ⟨rfl, rfl⟩
  refine this.to ?_
  show PyData.bool (PyData.eqv (.int a) (.int b)) = _
  simp only [PyData.eqv, beq_dec]
theorem ev_neI (ha : Ev K ta s (.int a) s1) (hb : Ev K tb s1 (.int b) s2) : Ev K (tOp (rD2 K eqOk neD) ta tb) s (.bool (!decide (a = b))) s2 := by
  have := ev_op (ok := eqOk) (f := neD) ha hb ⟨rfl, rfl⟩
  refine this.to ?_
  show PyData.bool (!PyData.eqv (.int a) (.int b)) = _
  simp only [PyData.eqv, beq_dec]
theorem ev_isN (ha : Ev K ta s x s1) (hb : Ev K tb s1 .none s2) : Ev K (tOp (rD2 K isOk isD) ta tb) s (.bool (isNoneB x)) s2 := ev_op ha hb rfl
theorem ev_isnN (ha : Ev K ta s x s1) (hb : Ev K tb s1 .none s2) : Ev K (tOp (rD2 K isOk isnD) ta tb) s (.bool (!isNoneB x)) s2 := ev_op ha hb rfl
theorem ev_negI (ha : Ev K ta s (.int a) s1) : Ev K (tUn (rD1 K negOk negD) ta) s (.int (-a)) s1 := ev_un ha trivial
theorem ev_lenL {ds : List D} {t : TA} (ha : EvA K t s [.list ds] s1) : Ev K (tCB (rDn K lenOk lenD) t) s (.int ds.length) s1 := ev_cb ha trivial
theorem ev_lenT {ds : List D} {t : TA} (ha : EvA K t s [.tuple ds] s1) : Ev K (tCB (rDn K lenOk lenD) t) s (.int ds.length) s1 := ev_cb ha trivial
theorem ev_lenO {ds : List D} {i : Nat} {ov : Option V} (hi : s.s[i]? = some (.res (lstR K ov ds))) : Ev K (tCB (rDn K lenOk lenD) (tCons (tVar i) tNil)) s (.int ds.length) s := ev_cb1 hi trivial
theorem ev_eqT {x y : D} (ha : Ev K ta s x s1) (hb : Ev K tb s1 y s2) (ok : eqOk x y) : Ev K (tOp (rD2 K eqOk eqD) ta tb) s (.bool (PyData.eqv x y)) s2 := ev_op ha hb ok
theorem ev_neT {x y : D} (ha : Ev K ta s x s1) (hb : Ev K tb s1 y s2) (ok : eqOk x y) : Ev K (tOp (rD2 K eqOk neD) ta tb) s (.bool (!PyData.eqv x y)) s2 := ev_op ha hb ok
theorem ev_inT {x y : D} (ha : Ev K ta s x s1) (hb : Ev K tb s1 y s2) (ok : inOk x y) : Ev K (tOp (rD2 K inOk inD) ta tb) s (.bool (inB x y)) s2 := ev_op ha hb ok
theorem ev_ninT {x y : D} (ha : Ev K ta s x s1) (hb : Ev K tb s1 y s2) (ok : inOk x y) : Ev K (tOp (rD2 K inOk ninD) ta tb) s (.bool (!inB x y)) s2 := ev_op ha hb ok
/-- xs[i] -/
theorem ev_ixL {ds : List D} {i : Int} {d : D} (ha : Ev K ta s (.list ds) s1) (hb : Ev K tb s1 (.int i) s2) (h : atI ds i = some d) : Ev K (tOp (rD2 K ixOk ixD) ta tb) s d s2 := by
  refine (ev_op ha hb (by show (atI ds i).isSome = true; rw [h]; rfl)).to ?_
  show (atI ds i).getD .none = d
  rw [h]; rfl
theorem ev_ixT {ds : List D} {i : Int} {d : D} (ha : Ev K ta s (.tuple ds) s1) (hb : Ev K tb s1 (.int i) s2) (h : atI ds i = some d) : Ev K (tOp (rD2 K ixOk ixD) ta tb) s d s2 := by
  refine (ev_op ha hb (by show (atI ds i).isSome = true; rw [h]; rfl)).to ?_
  show (atI ds i).getD .none = d
  rw [h]; rfl
theorem ev_ixO {ds ds' : List D} {i : Int} {d : D} {j : Nat} {ov ov' : Option V} (hi : s.s[j]? = some (.res (lstR K ov ds))) (hb : Ev K tb s (.int i) s2) (hi2 : s2.s[j]? = some (.res (lstR K ov' ds'))) (h : atI ds' i = some d) : Ev K (tOp (rD2 K ixOk ixD) (tVar j) tb) s d s2 := by
  refine (ev_op1 hi hb hi2 (by show (atI ds' i).isSome = true; rw [h]; rfl)).to ?_
  show (atI ds' i).getD .none = d
  rw [h]; rfl
end
mutual
theorem eqv_refl : ∀ (d : D), flat0 d = true → PyData.eqv d d = true
  | .none, _ => by simp [PyData.eqv]
  | .bool b, _ => by simp [PyData.eqv]
  | .int i, _ => by simp [PyData.eqv]
  | .str x, _ => by simp [PyData.eqv]
  | .list xs, h => by unfold flat0 at h; unfold PyData.eqv; exact eqvs_refl xs h
  | .tuple xs, h => by unfold flat0 at h; unfold PyData.eqv; exact eqvs_refl xs h
  | .dict _, h => by unfold flat0 at h; cases h
theorem eqvs_refl : ∀ (ds : List D), flats0 ds = true → PyData.eqvAll ds ds = true
  | [], _ => by unfold PyData.eqvAll; rfl
  | x :: xs, h => by
    unfold flats0 at h
    rw [Bool.and_eq_true] at h
    unfold PyData.eqvAll
    rw [eqv_refl x h.1, eqvs_refl xs h.2]; rfl
end
/-! ### what may be compared -/
def Sh (n : Nat) (d : D) : Prop := d.canLay0 = true ∧ d.depth ≤ n
def Shs (n : Nat) (ds : List D) : Prop := PyData.canLayAll0 ds = true ∧ PyData.depthAll ds ≤ n
theorem sh_non {n : Nat} : Sh n .none := ⟨by unfold PyData.canLay0; rfl, by unfold PyData.depth; exact Nat.zero_le _⟩
theorem sh_bl {n : Nat} {b : Bool} : Sh n (.bool b) := ⟨by unfold PyData.canLay0; rfl, by unfold PyData.depth; exact Nat.zero_le _⟩
theorem sh_int {n : Nat} {b : Int} : Sh n (.int b) := ⟨by unfold PyData.canLay0; rfl, by unfold PyData.depth; exact Nat.zero_le _⟩
theorem sh_str {n : Nat} {x : Str} (h : PyData.strOk x = true) : Sh n (.str x) := ⟨by unfold PyData.canLay0; exact h, by unfold PyData.depth; exact Nat.zero_le _⟩
theorem sh_lst {n : Nat} {ds : List D} (h : Shs n ds) : Sh (n + 1) (.list ds) := ⟨by unfold PyData.canLay0; exact h.1, by unfold PyData.depth; exact Nat.succ_le_succ h.2⟩
theorem sh_tup {n : Nat} {ds : List D} (h : Shs n ds) : Sh (n + 1) (.tuple ds) := ⟨by unfold PyData.canLay0; exact h.1, by unfold PyData.depth; exact Nat.succ_le_succ h.2⟩
theorem shs_nil {n : Nat} : Shs n [] := ⟨by unfold PyData.canLayAll0; rfl, by unfold PyData.depthAll; exact Nat.zero_le _⟩
theorem shs_cons {n : Nat} {d : D} {ds : List D} (h : Sh n d) (t : Shs n ds) : Shs n (d :: ds) := ⟨by unfold PyData.canLayAll0; rw [h.1, t.1]; rfl, by unfold PyData.depthAll; exact Nat.max_le.mpr ⟨h.2, t.2⟩⟩
theorem shs_of {n : Nat} : ∀ {ds : List D}, (∀ d ∈ ds, Sh n d) → Shs n ds
  | [], _ => shs_nil
  | d :: ds, h => shs_cons (h d List.mem_cons_self) (shs_of fun x hx => h x (List.mem_cons_of_mem _ hx))
theorem Shs.app {n : Nat} : ∀ {ds es : List D}, Shs n ds → Shs n es → Shs n (ds ++ es)
  | [], _, _, h => h
  | d :: ds, es, h, k => by
    obtain ⟨h1, h2⟩ := h
    unfold PyData.canLayAll0 at h1
    unfold PyData.depthAll at h2
    rw [Bool.and_eq_true] at h1
    exact shs_cons ⟨h1.1, Nat.le_trans (Nat.le_max_left _ _) h2⟩ (Shs.app ⟨h1.2, Nat.le_trans (Nat.le_max_right _ _) h2⟩ k)
theorem Shs.mem {n : Nat} : ∀ {ds : List D}, Shs n ds → ∀ d ∈ ds, Sh n d
  | [], _, d, h => by simp at h
  | x :: ds, h, d, hd => by
    obtain ⟨h1, h2⟩ := h
    unfold PyData.canLayAll0 at h1
    unfold PyData.depthAll at h2
    rw [Bool.and_eq_true] at h1
    rcases List.mem_cons.mp hd with rfl | hd
    · exact ⟨h1.1, Nat.le_trans (Nat.le_max_left _ _) h2⟩
    · exact Shs.mem (ds := ds) ⟨h1.2, Nat.le_trans (Nat.le_max_right _ _) h2⟩ d hd
theorem Sh.ok {n : Nat} {d : D} (h : Sh n d) (hn : n ≤ 64 := by decide) : SeqAt.shaped d = true := by
  unfold SeqAt.shaped
  rw [h.1, decide_eq_true (Nat.le_trans h.2 hn)]; rfl
theorem Sh.flat {n : Nat} {d : D} (h : Sh n d) : flat0 d = true := flat_of_canLay h.1
theorem Sh.eqv {n : Nat} {d : D} (h : Sh n d) : PyData.eqv d d = true := eqv_refl d h.flat
/-! ### a lambda handed to _law_refused -/
section
variable {X : Cx} {nm fl x ret : Str} {C fI g c P : Addr} {k : Nat} {st : Stmt} {fdg : FuncData} {T : List (Addr × Str)} {params : Arguments} {body : Expr} {scope : Scope} {t : XK → TE} {p lpos pos : Pos} {j : Nat} {p1 p2 p3 p4 p5 p6 p7 p8 p9 p10 p11 : Pos}
open LamX in
theorem lam_ref (F : Fun X.K x x st g fdg) (Sg : FnScope ["call", "e"] ["call"] (defScope st)) (hst : defBody st = [.Try [.Expr (.Call (.Name "call" p1) [] [] p2) p3] [.ExceptHandler (some (.Name nm p4)) (some "e") [.Return (some (.Attribute (.Name "e" p5) fl p6)) p7] p8] [] [] p9, .Return (some (.Constant (.str ret) j p10)) p11])
    (TX : BX.ExTxt X.prog X.K X.mg nm fl C fI) (te : PySem.W.exmOne X.K (.ref C) (.ref C) = some true) (hge : (defScope st).names.lookup nm = some .globalImplicit) (hde : (nm == ("__debug__" : Str)) = false) (hle : (defScope st).names.lookup ("e" : Str) = some .local) (hva : Vis (defScope st) "call")
    (hb : ∀ kV doc pm an cdv ct, L2.Binds X.K (PySem.W.fnOf x x (defArgs st) (defBody st) (defScope st) .none kV doc pm an cdv ct) ["call"] [])
    (hm : X.mg x = some (.ref g)) (hg : Gl X x) (TB : TabB X.base X.mg c P) (hcode : X.env.code = .ref c) (hmT : (P, X.env.qual ++ "<lambda>") ∈ T) (hu : ∀ p ∈ T, p.1 = P → p.2 = X.env.qual ++ "<lambda>") (hr : Room (k + 2) X.A) (L : LamS X.env.scope scope) (hdef : defaultsOf params X.env = ([], []))
    (hbind : ∀ (q : Str) (cl : List (Str × Addr)) (pm cv ctv : Value), bindArgs (PySem.W.kla_fn "<lambda>" q params body scope cl pm cv ctv) ⟨[], []⟩ = pure [])
    (hbody : ∀ (A : Around) (outer : List Env) (s : Shared) (H : Hp) (E : XK) (f c' : Addr), Room k (A.deeper (lamEnv X scope s.heap.objs.size f c')) → PE (lamCx X A outer s H E scope f c') body (t E))
    (hdb : (x == ("__debug__" : Str)) = false := by decide) :
    PE X (.Call (.Name x p) [.Lambda params body scope lpos] [] pos) (tLam T (BX.TRef X.K C fl ret) t) := by
  obtain ⟨oc, od, kV, doc, pm, an, cdv, ct, osl, rfl, lk, hcd⟩ := F.ex
  refine pe_lamcall (a := "call") (Ng := ["call", "e"]) hg hm F.kp lk hcd (hb _ _ _ _ _ _) Sg rfl hva ?_ TB hcode hmT hu hr L hdef hbind hbody hdb
  rw [hst]
  exact BX.ref_gives TX te hge hde hle
end
end DL

namespace DL
open PySem PySem.Spec PyProof.Rows L2
section
variable {K : PySem.W.Frag} {E : XK} {s s1 s2 s' : S} {te : TE} {d : D} {o : Out} {t : TS} {σ : L2.St} {H F H0 F0 H' F' : Hp} {fp fp0 fp' : Fp}
/-- a thing held aside -/
theorem EnvW.hold {m : Nat} {P : Addr → Prop} (e : EnvW K σ s H F fp) (o : Own H0 fp0 H F fp P) : EnvW K σ s H F (fpSet fp (.inr m) P) where
  ex := e.ex
  len := e.len
  sl := fun i x h => by rw [fpSet_ne (by intro z; cases z)]; exact e.sl i x h
  tb := e.tb
  dj := fun j k b hjk h1 h2 => by
    by_cases z : j = .inr m
    · subst z; rw [fpSet_same] at h1; rw [fpSet_ne (Ne.symm hjk)] at h2; exact o.dj b k h1 h2
    · rw [fpSet_ne z] at h1
      by_cases y : k = .inr m
      · subst y; rw [fpSet_same] at h2; exact o.dj b j h2 h1
      · rw [fpSet_ne y] at h2; exact e.dj j k b hjk h1 h2
  nf := fun j b h1 => by
    by_cases z : j = .inr m
    · subst z; rw [fpSet_same] at h1; exact o.nf b h1
    · rw [fpSet_ne z] at h1; exact e.nf j b h1
  th := fun j b h1 => by
    by_cases z : j = .inr m
    · subst z; rw [fpSet_same] at h1; exact o.th b h1
    · rw [fpSet_ne z] at h1; exact e.th j b h1
  nt := e.nt
theorem EnvW.letGo {m : Nat} (e : EnvW K σ s H F fp) : EnvW K σ s H F (fpSet fp (.inr m) noP) := e.hold (H0 := H) (fp0 := fp) (Own.none (F := F))
/-- f(e, ..), e a new list that f may change -/
theorem ev_callOw {R : FR} {tr : TA} {ds es : List D} {sx : List Sl} (h : EvO K te s (lstR K none es) s1) (ha : EvA K tr s1 ds s2)
    (hR : ∀ v, R ⟨.res (lstR K (some v) es) :: ds.map .dat, s2.g⟩ (.rt d ⟨sx, s2.g⟩)) : Ev K (tCall (spF K R) [] E (tCons te tr)) s d s2 := fun σ H F fp e Q q =>
  h σ H F fp e _ fun v H1 F1 fp1 P e1 st1 a1 o1 => ha σ H1 F1 fp1 e1 _ fun vs H2 F2 fp2 e2 st2 a2 => by
    obtain ⟨a, ws, h1, h2, h3, h4, h5⟩ := a1
    cases h1
    have la : Live H1 a := o1.th a ((h3 a).mpr rfl)
    have na : ∀ i, ¬ fp1 i a := fun i hi => o1.dj a i ((h3 a).mpr rfl) hi
    have na2 : ∀ i, ¬ fp2 i a := fun i hi => by
      rcases st2.fpn i a hi with ⟨j, hj⟩ | hn
      · exact na j hj
      · exact hn la
    have hl2 : H2 a = some (.lst ws) := st2.keep a _ h4 (by intro ps z; cases z) na
    have oP : Own H fp H2 F2 fp2 (fun b => b = a) := ⟨fun b hb => hb ▸ st2.new a (o1.nf a ((h3 a).mpr rfl)) la na, fun b i hb hi => na2 i (hb ▸ hi), fun b hb => by subst hb; exact ⟨_, hl2, by intro ps z; cases z⟩, fun b hb => by subst hb; exact o1.new _ ((h3 _).mpr rfl)⟩
    have e3 := e2.hold (m := 0) oP
    have st3 := (st1.trans st2).own (i := .inr 0) oP
    show spF K R ((V.ref a :: vs) ++ []) H2 Q E
    rw [List.append_nil]
    refine ⟨⟨.res (lstR K (some (.ref a)) es) :: ds.map .dat, s2.g⟩, F2, fun j b => j = .inl 0 ∧ b = a, _, ⟨e2.ex, by simp [a2.length], fun k x hx => ?_, e2.tb, fun j k b hjk h1 h2 => hjk (h1.1.trans h2.1.symm), fun j b h => oP.nf b h.2, fun j b h => oP.th b h.2, e2.nt⟩, hR (.ref a), fun v H' F' fp' e' st av => ?_⟩
    · cases k with
      | zero =>
        simp at hx
        subst hx
        exact ⟨a, ws, rfl, fun v hv => (Option.some.inj hv).symm, fun b => ⟨fun z => z.2, fun z => ⟨rfl, z⟩⟩, hl2, h5.ex st2.ex⟩
      | succ k =>
        simp at hx
        obtain ⟨d, hd, rfl⟩ := hx
        obtain ⟨v, hv, hdv⟩ := a2.get hd
        exact ⟨v, by simp [hv], hdv⟩
    · have h := frame (J := fun j => j = .inr 0) (fun _ => .inl 0) (s2 := s2) e3 (fun j k hj hk _ => hj.trans hk.symm) (fun (j : Ix) (b : Addr) (h : j = .inl 0 ∧ b = a) => ⟨.inr 0, rfl, by rw [fpSet_same]; exact h.2⟩) e' st rfl (fun k x hx => ⟨(fun z => nomatch z), fun _ => hx⟩) rfl
      exact q v H' F' _ (h.1.letGo (m := 0)) ((st3.trans h.2).trans (Step.drop (i := .inr 0))) av
end
end DL
namespace DL
open PySem PySem.Spec PyProof.Rows L2
section
variable {K : PySem.W.Frag} {E : XK} {s s1 s2 s3 s' : S} {te ta tb : TE} {t u : TT} {d : D} {b : Bool}
theorem et_andF (h1 : EvT K t s false s1) : EvT K (tAnd t u) s false s1 := et_and (b := false) h1 (fun z => nomatch z)
theorem et_orT (h1 : EvT K t s true s1) : EvT K (tOr t u) s true s1 := et_or (b := false) h1 (fun z => nomatch z)
theorem ev_andF (h1 : Ev K ta s (.bool false) s1) : Ev K (tAndV ta tb) s (.bool false) s1 := ev_and (b := false) h1 (fun z => nomatch z)
theorem ev_orT (h1 : Ev K ta s (.bool true) s1) : Ev K (tOrV ta tb) s (.bool true) s1 := ev_or (b := false) h1 (fun z => nomatch z)
theorem ev_addL {xs ys : List D} (ha : Ev K ta s (.list xs) s1) (hb : Ev K tb s1 (.list ys) s2) (h : xs.length + ys.length ≤ sizeLine) : Ev K (tOp (rD2 K addOk addD) ta tb) s (.list (xs ++ ys)) s2 := ev_op ha hb h
theorem ev_addT {xs ys : List D} (ha : Ev K ta s (.tuple xs) s1) (hb : Ev K tb s1 (.tuple ys) s2) (h : xs.length + ys.length ≤ sizeLine) : Ev K (tOp (rD2 K addOk addD) ta tb) s (.tuple (xs ++ ys)) s2 := ev_op ha hb h
theorem ev_intI {i : Int} (ha : Ev K ta s (.int i) s1) : Ev K (tCB (rDn K intOk intD) (tCons ta tNil)) s (.int i) s1 := ev_cb (ea_cons ha ea_nil) trivial
theorem ev_absI {i : Int} (ha : Ev K ta s (.int i) s1) : Ev K (tCB (rDn K absOk absD) (tCons ta tNil)) s (.int (if i < 0 then -i else i)) s1 := ev_cb (ea_cons ha ea_nil) trivial
theorem ev_maxI {i j : Int} (ha : Ev K ta s (.int i) s1) (hb : Ev K tb s1 (.int j) s2) : Ev K (tCB (rDn K mmOk maxD) (tCons ta (tCons tb tNil))) s (.int (max i j)) s2 := ev_cb (ea_cons ha (ea_cons hb ea_nil)) trivial
theorem ev_minI {i j : Int} (ha : Ev K ta s (.int i) s1) (hb : Ev K tb s1 (.int j) s2) : Ev K (tCB (rDn K mmOk minD) (tCons ta (tCons tb tNil))) s (.int (min i j)) s2 := ev_cb (ea_cons ha (ea_cons hb ea_nil)) trivial
theorem ev_chainI {a b c : Int} {tc : TE} (ha : Ev K ta s (.int a) s1) (hb : Ev K tb s1 (.int b) s2) (hc : Ev K tc s2 (.int c) s2) : Ev K (tChain (rD2 K ordOk leD) (rD2 K ordOk leD) ta tb tc) s (.bool (decide (a ≤ b) && decide (b ≤ c))) s2 :=
  ev_chain ha hb trivial rfl (fun _ => hc) (fun _ => trivial) (fun _ => rfl)
theorem spf_len {R : FR} {n : Nat} (h : ∀ s o, R s o → s.s.length = n) {vs : List V} {H : Hp} {Q : VK} (w : spF K R vs H Q E) : vs.length = n := by
  obtain ⟨s, F, fp, o, e, hR, _⟩ := w
  have := e.len
  rw [List.length_map] at this
  rw [this, h s o hR]
end
end DL

namespace DL
open PySem PySem.Spec PyProof.Rows L2
/-! ### forgetting -/
inductive Fo : List Sl → List Sl → Prop
  | nil : Fo [] []
  | same {x : Sl} {l m : List Sl} : Fo l m → Fo (x :: l) (x :: m)
  | unk {x : Sl} {l m : List Sl} : Fo l m → Fo (x :: l) (.unk :: m)
theorem Fo.len : ∀ {l m : List Sl}, Fo l m → l.length = m.length
  | _, _, .nil => rfl
  | _, _, .same h => by simp [Fo.len h]
  | _, _, .unk h => by simp [Fo.len h]
theorem Fo.at : ∀ {l m : List Sl}, Fo l m → ∀ (i : Nat) (x : Sl), m[i]? = some x → x = .unk ∨ l[i]? = some x
  | _, _, .nil, i, x, h => by simp at h
  | _, _, .same h, 0, x, e => .inr (by simpa using e)
  | _, _, .same h, i + 1, x, e => by simpa using Fo.at h i x (by simpa using e)
  | _, _, .unk h, 0, x, e => .inl (by simpa using e.symm)
  | _, _, .unk h, i + 1, x, e => by simpa using Fo.at h i x (by simpa using e)
theorem Fo.le {l m : List Sl} {g : List (Addr × Str)} (h : Fo l m) : SLe ⟨l, g⟩ ⟨m, g⟩ := ⟨h.len, h.at, rfl⟩
/-! ### the script -/
section
variable {K : PySem.W.Frag} {E : XK} {s s1 s2 s3 s' : S} {te ta tb : TE} {t u : TT} {d : D} {b : Bool} {ns : List Int}
theorem ev_ifP {x : D} (h : EvT K t s b s) (h1 : b = true → Ev K ta s x s) (h2 : b = false → Ev K tb s x s) : Ev K (tIf t ta tb) s x s := ev_if h h1 h2
theorem ev_ifT {x : D} (h : EvT K t s true s1) (h1 : Ev K ta s1 x s2) : Ev K (tIf t ta tb) s x s2 := ev_if h (fun _ => h1) (fun z => nomatch z)
theorem ev_ifF {x : D} (h : EvT K t s false s1) (h1 : Ev K tb s1 x s2) : Ev K (tIf t ta tb) s x s2 := ev_if h (fun z => nomatch z) (fun _ => h1)
theorem ev_lenS (h : Ev K te s (scrD ns) s1) : Ev K (tCB (rDn K lenOk lenD) (tCons te tNil)) s (.int ns.length) s1 := by
  refine (ev_cb (ea_cons h ea_nil) (by show (intsOf (ns.map PyData.int)).isSome = true; rw [intsOf_map]; rfl)).to ?_
  show PyData.int ((ns.map PyData.int).length : Nat) = _
  rw [List.length_map]
theorem ev_ixS {i n : Int} (ha : Ev K ta s (scrD ns) s1) (hb : Ev K tb s1 (.int i) s2) (h : atI ns i = some n) : Ev K (tOp (rD2 K ixOk ixD) ta tb) s (.int n) s2 := by
  have e : atI (ns.map PyData.int) i = some (.int n) := by
    unfold atI at h ⊢
    rw [List.length_map]
    cases q : ixN ns.length i with
    | none => rw [q] at h; cases h
    | some j =>
      rw [q] at h
      show (ns.map PyData.int)[j]? = _
      rw [List.getElem?_map, show ns[j]? = some n from h]; rfl
  refine (ev_op ha hb ⟨by rw [intsOf_map]; rfl, by rw [e]; rfl⟩).to ?_
  show (atI (ns.map PyData.int) i).getD .none = _
  rw [e]; rfl
theorem ev_slS {tl th : TO} {lo hi : Option Int} (h : Ev K te s (scrD ns) s1) (h1 : EvP K tl s1 lo s2) (h2 : EvP K th s2 hi s3) : Ev K (tSl (rSlU K) te tl th) s (.list (cutL (ns.map PyData.int) lo hi)) s3 :=
  ev_sl h h1 h2 (by show (intsOf (ns.map PyData.int)).isSome = true; rw [intsOf_map]; rfl)
theorem ev_slL {xs : List D} {tl th : TO} {lo hi : Option Int} (h : Ev K te s (.list xs) s1) (h1 : EvP K tl s1 lo s2) (h2 : EvP K th s2 hi s3) : Ev K (tSl (rSlU K) te tl th) s (.list (cutL xs lo hi)) s3 := ev_sl h h1 h2 trivial
theorem ev_slT {xs : List D} {tl th : TO} {lo hi : Option Int} (h : Ev K te s (.tuple xs) s1) (h1 : EvP K tl s1 lo s2) (h2 : EvP K th s2 hi s3) : Ev K (tSl (rSlU K) te tl th) s (.tuple (cutL xs lo hi)) s3 := ev_sl h h1 h2 trivial
end
theorem fold_at {α β : Type} {f : β → α → β} {a : β} {l : List α} {i : Nat} {c : α} (h : l[i]? = some c) : (l.take (i + 1)).foldl f a = f ((l.take i).foldl f a) c := by
  rw [List.take_add_one, h, List.foldl_append]; rfl
theorem map_at {α : Type} {f : α → D} {l : List α} {i : Nat} {d : D} (h : (l.map f)[i]? = some d) : ∃ c, l[i]? = some c ∧ d = f c := by
  rw [List.getElem?_map] at h
  cases q : l[i]? with
  | none => rw [q] at h; cases h
  | some c => rw [q] at h; exact ⟨c, rfl, (Option.some.inj h).symm⟩
theorem cut_to {α : Type} {xs : List α} {n : Int} (h : 0 ≤ n) : cutL xs none (some n) = xs.take n.toNat := by
  unfold cutL
  obtain ⟨k, rfl⟩ := Int.eq_ofNat_of_zero_le h
  rw [HT.sIx_nat, HT.sIx_none, Nat.sub_zero, List.drop_zero, Int.toNat_natCast]
  by_cases h : k ≤ xs.length
  · rw [Nat.min_eq_left h]
  · rw [Nat.min_eq_right (by omega), List.take_of_length_le (Nat.le_refl _), List.take_of_length_le (by omega)]
theorem cut_from {α : Type} {xs : List α} {n : Int} (h : 0 ≤ n) : cutL xs (some n) none = xs.drop n.toNat := by
  unfold cutL
  obtain ⟨k, rfl⟩ := Int.eq_ofNat_of_zero_le h
  rw [HT.sIx_nat, HT.sIx_none, Int.toNat_natCast]
  by_cases h : k ≤ xs.length
  · rw [Nat.min_eq_left h, List.take_of_length_le (by simp)]
  · rw [Nat.min_eq_right (by omega), Nat.sub_self, List.take_zero, List.drop_of_length_le (by omega)]
end DL
namespace DL
open PySem PySem.Spec PyProof.Rows L2
/-! ### the first place where p holds, from i on, m places at most -/
def lf (p : Nat → Bool) : Nat → Nat → Nat
  | i, 0 => i
  | i, m + 1 => if p i then i else lf p (i + 1) m
theorem lf_spec (p : Nat → Bool) : ∀ (m i : Nat), p (i + m) = true → i ≤ lf p i m ∧ lf p i m ≤ i + m ∧ p (lf p i m) = true ∧ ∀ j, i ≤ j → j < lf p i m → p j = false
  | 0, i, h => ⟨Nat.le_refl _, Nat.le_refl _, h, fun j h1 h2 => absurd h2 (Nat.not_lt.mpr h1)⟩
  | m + 1, i, h => by
    unfold lf
    by_cases q : p i = true
    · rw [if_pos q]; exact ⟨Nat.le_refl _, Nat.le_add_right _ _, q, fun j h1 h2 => absurd h2 (Nat.not_lt.mpr h1)⟩
    · rw [if_neg q]
      obtain ⟨h1, h2, h3, h4⟩ := lf_spec p m (i + 1) (by rw [show i + 1 + m = i + (m + 1) by omega]; exact h)
      refine ⟨by omega, by omega, h3, fun j j1 j2 => ?_⟩
      by_cases e : j = i
      · subst e; simpa using q
      · exact h4 j (by omega) j2
theorem le_size {n : Nat} (h : n ≤ 16777216) : n ≤ sizeLine := by rw [sizeLine_eq]; exact h
section
variable {K : PySem.W.Frag} {E : XK} {s s1 s2 s3 s' : S} {te ta tb : TE} {t u : TT} {d : D} {b : Bool} {ds : List D}
theorem ev_tupO {i : Nat} {ov : Option V} (hi : s.s[i]? = some (.res (lstR K ov ds))) : Ev K (tCB (rDn K seqOk tupD) (tCons (tVar i) tNil)) s (.tuple ds) s := ev_cb1 hi trivial
theorem ev_tupL (h : Ev K te s (.list ds) s1) : Ev K (tCB (rDn K seqOk tupD) (tCons te tNil)) s (.tuple ds) s1 := ev_cb (ea_cons h ea_nil) trivial
theorem ev_tupT (h : Ev K te s (.tuple ds) s1) : Ev K (tCB (rDn K seqOk tupD) (tCons te tNil)) s (.tuple ds) s1 := ev_cb (ea_cons h ea_nil) trivial
theorem ev_lstL (h : Ev K te s (.list ds) s1) : Ev K (tCB (rDl K seqOk itemsD) (tCons te tNil)) s (.list ds) s1 := ev_cl (ea_cons h ea_nil) trivial
theorem ev_lstT (h : Ev K te s (.tuple ds) s1) : Ev K (tCB (rDl K seqOk itemsD) (tCons te tNil)) s (.list ds) s1 := ev_cl (ea_cons h ea_nil) trivial
end
theorem upTo_zero {lo : Int} : upTo lo 0 = [] := rfl
theorem upTo_getN {lo : Int} {n i : Nat} (h : i < n) : (upTo lo n)[i]? = some (.int (lo + i)) := by
  unfold upTo
  rw [List.getElem?_map, List.getElem?_range h]; rfl
theorem upTo_take {lo : Int} {n k : Nat} (h : k ≤ n) : (upTo lo n).take k = upTo lo k := by
  unfold upTo
  rw [← List.map_take, List.take_range, Nat.min_eq_left h]
theorem upTo_drop {lo : Int} {n k : Nat} : (upTo lo n).drop k = upTo (lo + k) (n - k) := by
  apply List.ext_getElem?
  intro i
  rw [List.getElem?_drop]
  by_cases h : k + i < n
  · rw [upTo_getN h, upTo_getN (by omega)]; congr 2; omega
  · rw [List.getElem?_eq_none (by rw [upTo_len]; omega), List.getElem?_eq_none (by rw [upTo_len]; omega)]
theorem upTo_mem {lo : Int} {n : Nat} {d : D} : d ∈ upTo lo n ↔ ∃ i : Nat, i < n ∧ d = .int (lo + i) := by
  unfold upTo
  simp only [List.mem_map, List.mem_range]
  exact ⟨fun ⟨i, h, e⟩ => ⟨i, h, e.symm⟩, fun ⟨i, h, e⟩ => ⟨i, h, e.symm⟩⟩
theorem upTo_sh {lo : Int} {n k : Nat} : Shs k (upTo lo n) := shs_of fun d h => by obtain ⟨i, _, rfl⟩ := upTo_mem.mp h; exact sh_int
theorem upTo_in {lo h : Int} {n : Nat} : inB (.int h) (.list (upTo lo n)) = (decide (lo ≤ h) && decide (h < lo + n)) := by
  unfold inB
  by_cases c : lo ≤ h ∧ h < lo + n
  · rw [decide_eq_true c.1, decide_eq_true c.2]
    refine List.any_eq_true.mpr ⟨.int h, upTo_mem.mpr ⟨(h - lo).toNat, by omega, by congr 1; omega⟩, by simp [PyData.eqv]⟩
  · have : (decide (lo ≤ h) && decide (h < lo + n)) = false := by
      simp only [Bool.and_eq_false_iff, decide_eq_false_iff_not]; omega
    rw [this]
    refine List.any_eq_false.mpr fun d hd => ?_
    obtain ⟨i, hi, rfl⟩ := upTo_mem.mp hd
    simp only [PyData.eqv, beq_iff_eq]
    omega
theorem atI_nat {α : Type} {xs : List α} {i : Nat} {x : α} (h : xs[i]? = some x) : atI xs (i : Int) = some x := by
  have hl := (List.getElem?_eq_some_iff.mp h).1
  unfold atI ixN
  rw [if_pos (by omega), if_pos (by omega)]
  exact h
theorem atI_last {α : Type} {xs : List α} {x : α} (h : xs[xs.length - 1]? = some x) : atI xs (-1) = some x := by
  have hl := (List.getElem?_eq_some_iff.mp h).1
  unfold atI ixN
  rw [if_neg (by omega), if_pos (by omega)]
  show xs[(-1 + (xs.length : Int)).toNat]? = _
  rw [show (-1 + (xs.length : Int)).toNat = xs.length - 1 by omega]
  exact h
end DL
namespace DL
open PySem PySem.Spec PyProof.Rows L2
section
variable {K : PySem.W.Frag} {E : XK} {s s1 : S} {tt : TT} {t : TS}
theorem run_whileP (f : Nat → S) (m : Nat) (h0 : SLe s (f 0)) (hs : ∀ i, i < m → EvT K tt (f i) true (f i) ∧ Run K E t (f i) (.nx (f (i + 1)))) (he : EvT K tt (f m) false (f m)) : Run K E (tWhile tt t) s (.nx (f m)) :=
  run_while f f m h0 hs he
end
end DL
namespace DL
theorem Fo.int {a b : Int} {l m : List Sl} (h : a = b) (t : Fo l m) : Fo (.dat (.int a) :: l) (.dat (.int b) :: m) := h ▸ .same t
theorem Fo.dat {a b : D} {l m : List Sl} (h : a = b) (t : Fo l m) : Fo (.dat a :: l) (.dat b :: m) := h ▸ .same t
theorem Fo.lst {K : PySem.W.Frag} {ov : Option L2.V} {a b : List D} {l m : List Sl} (h : a = b) (t : Fo l m) : Fo (.res (lstR K ov a) :: l) (.res (lstR K ov b) :: m) := h ▸ .same t
end DL
namespace DL
open PySem PySem.Spec PyProof.Rows L2
section
variable {K : PySem.W.Frag} {E : XK} {s s1 s2 : S} {t : TS} {d : D} {r : Rs} {te : TE} {Cc : Addr} {fl : Str}
theorem run_rtle (h : Run K E t s (.rt d s1)) (l : SLe s1 s2) : Run K E t s (.rt d s2) := fun σ H F fp e Ed q => h σ H F fp e Ed fun σ' v H' F' fp' e' st a => q σ' v H' F' fp' (e'.le l) st a
theorem run_role (h : Run K E t s (.ro r s1)) (l : SLe s1 s2) : Run K E t s (.ro r s2) := fun σ H F fp e Ed q => h σ H F fp e Ed fun σ' v H' F' fp' P e' st a o => q σ' v H' F' fp' P (e'.le l) st a o
theorem run_exle (h : Run K E t s (.ex Cc fl d s1)) (l : SLe s1 s2) : Run K E t s (.ex Cc fl d s2) := fun σ H F fp e Ed q => h σ H F fp e Ed fun σ' dd v H' F' fp' e' st a b => q σ' dd v H' F' fp' (e'.le l) st a b
theorem run_retle (h : Ev K te s d s1) (l : SLe s1 s2) : Run K E (tRet te) s (.rt d s2) := run_rtle (run_ret h) l
end
end DL
namespace DL
open PySem PySem.Spec PyProof.Rows L2
section
variable {K : PySem.W.Frag} {E : XK} {s s1 s2 : S} {t : TS} {d : D} {te ta : TE} {ms : List Int}
theorem ev_maxL (h : Ev K ta s (.list (ms.map PyData.int)) s1) (hn : ms ≠ []) : Ev K (tCB (rDn K mmOk maxD) (tCons ta tNil)) s (.int (lmax ms)) s1 := by
  refine (ev_cb (ea_cons h ea_nil) ⟨by simpa using hn, by rw [intsOf_map]; rfl⟩).to ?_
  show PyData.int (lmax ((intsOf (ms.map PyData.int)).getD [])) = _
  rw [intsOf_map]; rfl
theorem ev_minL (h : Ev K ta s (.list (ms.map PyData.int)) s1) (hn : ms ≠ []) : Ev K (tCB (rDn K mmOk minD) (tCons ta tNil)) s (.int (lmin ms)) s1 := by
  refine (ev_cb (ea_cons h ea_nil) ⟨by simpa using hn, by rw [intsOf_map]; rfl⟩).to ?_
  show PyData.int (lmin ((intsOf (ms.map PyData.int)).getD [])) = _
  rw [intsOf_map]; rfl
end
end DL

namespace DL
open PySem PySem.Spec PyProof.Rows L2
section
variable {K : PySem.W.Frag} {E : XK} {H : Hp}
/-- what a caller sees behind a body, slot by slot; m: what stands in the body's slots at the end -/
inductive Lv (m : List Sl) : Nat → List V → List Sl → List Sl → Prop
  | nil {i : Nat} : Lv m i [] [] []
  | unk {i : Nat} {v : V} {vs : List V} {x : Sl} {l k : List Sl} : Lv m (i + 1) vs l k → Lv m i (v :: vs) (x :: l) (.unk :: k)
  | dat {i : Nat} {v : V} {vs : List V} {d : D} {l k : List Sl} : Lv m (i + 1) vs l k → Lv m i (v :: vs) (.dat d :: l) (.dat d :: k)
  | res {i : Nat} {v : V} {vs : List V} {x : Sl} {r : Rs} {l k : List Sl} (h : m[i]? = some (.res r)) (hp : Pin r v) : Lv m (i + 1) vs l k → Lv m i (v :: vs) (x :: l) (.res r :: k)
theorem Lv.len {m : List Sl} : ∀ {i : Nat} {vs : List V} {l k : List Sl}, Lv m i vs l k → k.length = l.length
  | _, _, _, _, .nil => rfl
  | _, _, _, _, .unk h => by simp [Lv.len h]
  | _, _, _, _, .dat h => by simp [Lv.len h]
  | _, _, _, _, .res _ _ h => by simp [Lv.len h]
theorem Lv.at {m : List Sl} : ∀ {i : Nat} {vs : List V} {l k : List Sl}, Lv m i vs l k → ∀ (j : Nat) (x : Sl), k[j]? = some x → x = .unk ∨ (∃ d, x = .dat d ∧ l[j]? = some x) ∨ ∃ r v, x = .res r ∧ m[i + j]? = some x ∧ vs[j]? = some v ∧ Pin r v
  | _, _, _, _, .nil, j, x, h => by simp at h
  | _, _, _, _, .unk t, 0, x, h => .inl (by simpa using h.symm)
  | _, _, _, _, .dat t, 0, x, h => by
    simp at h; subst h
    exact .inr (.inl ⟨_, rfl, by simp⟩)
  | _, _, _, _, .res h1 hp t, 0, x, h => by
    simp at h; subst h
    exact .inr (.inr ⟨_, _, rfl, by simpa using h1, by simp, hp⟩)
  | i, _, _, _, .unk t, j + 1, x, h => by
    have := Lv.at t j x (by simpa using h)
    rw [show i + 1 + j = i + (j + 1) by omega] at this
    simpa using this
  | i, _, _, _, .dat t, j + 1, x, h => by
    have := Lv.at t j x (by simpa using h)
    rw [show i + 1 + j = i + (j + 1) by omega] at this
    simpa using this
  | i, _, _, _, .res _ _ t, j + 1, x, h => by
    have := Lv.at t j x (by simpa using h)
    rw [show i + 1 + j = i + (j + 1) by omega] at this
    simpa using this
theorem Lv.leave {vs : List V} {s0 s1 s' : S} (h : Lv s1.s 0 vs s0.s s'.s) (hg : s'.g = s1.g) : Leave vs s0 s1 s' := ⟨h.len, fun i x hx => by
  rcases h.at i x hx with e | e | ⟨r, v, e1, e2, e3, e4⟩
  · exact .inl e
  · exact .inr (.inl e)
  · exact .inr (.inr ⟨r, v, e1, by rw [Nat.zero_add] at e2; exact e2, e3, e4⟩), hg⟩
/-- a body that runs keeps its promise: the same, in short -/
theorem run_bodyS {N : List Str} {n : Nat} {vs : List V} {t : TS} {R : FR} {Q : VK} (hl : n ≤ N.length) (hn : ∀ s o, R s o → s.s.length = n) (h : spF K R vs H Q E)
    (hr : ∀ s o, R s o → vs.length = n → (∃ F fp, EnvW K (vs.map some) s H F fp) → ∃ o1, Run K E t (s.more (N.length - n)) o1 ∧ Ret vs s o1 o) : t { nx := fun _ H' => Q .non H', rt := Q } (L2.start N vs) H := by
  have hv : vs.length = n := spf_len hn h
  refine run_body (by rw [hv]; exact hl) h fun s o hR hlen F fp e => ?_
  rw [hv]
  exact hr s o hR hv ⟨F, fp, e⟩
theorem pin_at {v0 v : V} {vs : List V} {es : List D} {l : List Sl} {g : List (Addr × Str)} (h : ∃ F fp, EnvW K ((v0 :: vs).map some) ⟨.res (lstR K (some v) es) :: l, g⟩ H F fp) : v0 = v := by
  obtain ⟨F, fp, e⟩ := h
  obtain ⟨a, ws, h1, h2, _⟩ := e.sl 0 _ rfl
  have := h2 v rfl
  subst this
  simpa using h1
theorem len1 {vs : List V} (h : vs.length = 1) : ∃ a, vs = [a] := match vs, h with | [a], _ => ⟨a, rfl⟩
theorem len2 {vs : List V} (h : vs.length = 2) : ∃ a b, vs = [a, b] := match vs, h with | [a, b], _ => ⟨a, b, rfl⟩
theorem len3 {vs : List V} (h : vs.length = 3) : ∃ a b c, vs = [a, b, c] := match vs, h with | [a, b, c], _ => ⟨a, b, c, rfl⟩
theorem len4 {vs : List V} (h : vs.length = 4) : ∃ a b c d, vs = [a, b, c, d] := match vs, h with | [a, b, c, d], _ => ⟨a, b, c, d, rfl⟩
theorem len5 {vs : List V} (h : vs.length = 5) : ∃ a b c d e, vs = [a, b, c, d, e] := match vs, h with | [a, b, c, d, e], _ => ⟨a, b, c, d, e, rfl⟩
theorem len6 {vs : List V} (h : vs.length = 6) : ∃ a b c d e f, vs = [a, b, c, d, e, f] := match vs, h with | [a, b, c, d, e, f], _ => ⟨a, b, c, d, e, f, rfl⟩
theorem len0 {vs : List V} (h : vs.length = 0) : vs = [] := List.length_eq_zero_iff.mp h
theorem len7 {vs : List V} (h : vs.length = 7) : ∃ a b c d e f g, vs = [a, b, c, d, e, f, g] := match vs, h with | [a, b, c, d, e, f, g], _ => ⟨a, b, c, d, e, f, g, rfl⟩
theorem len8 {vs : List V} (h : vs.length = 8) : ∃ a b c d e f g i, vs = [a, b, c, d, e, f, g, i] := match vs, h with | [a, b, c, d, e, f, g, i], _ => ⟨a, b, c, d, e, f, g, i, rfl⟩
theorem len9 {vs : List V} (h : vs.length = 9) : ∃ a b c d e f g i j, vs = [a, b, c, d, e, f, g, i, j] := match vs, h with | [a, b, c, d, e, f, g, i, j], _ => ⟨a, b, c, d, e, f, g, i, j, rfl⟩
theorem FunC.binds {K : PySem.W.Frag} {x qual : Str} {st : Stmt} {f : Addr} {fd : FuncData} {c : Addr} {ps : List Str} (F : FunC K x qual st f fd c)
    (h : ∀ (kV doc pm : Value) (an : Option Addr) (cdv ct : Value) (us : List Value), us.length = ps.length → bindArgs (PySem.W.fnOf x qual (defArgs st) (defBody st) (defScope st) .none kV doc pm an cdv ct) ⟨us, []⟩ = pure (ps.zip us)) : L2.Binds K fd ps [] := F.toFun.binds h
theorem funC_mk {K : PySem.W.Frag} {x qual : Str} {st : Stmt} {f c : Addr} {oc : Value} {od an : Option Addr} {osl : Array (Option Value)} {kV doc pm ct : Value} (l : K.lookup f = some ⟨oc, od, .func (PySem.W.fnOf x qual (defArgs st) (defBody st) (defScope st) .none kV doc pm an (.ref c) ct), osl⟩)
    (cc : PySem.W.codeIn K (.ref c) qual = true) (k : PySem.W.keepIn K (.ref f) = true) : FunC K x qual st f (PySem.W.fnOf x qual (defArgs st) (defBody st) (defScope st) .none kV doc pm an (.ref c) ct) c := ⟨⟨oc, od, kV, doc, pm, an, ct, osl, rfl, l, cc⟩, k⟩
theorem Fun.kwb {K : PySem.W.Frag} {x qual : Str} {st : Stmt} {f : Addr} {fd : FuncData} {ps ks : List Str} {n : Nat} {p : List Nat} (F : Fun K x qual st f fd)
    (h : ∀ (kV doc pm : Value) (an : Option Addr) (cdv ct : Value) (us ws : List Value), us.length = n → ws.length = ks.length → bindArgs (PySem.W.fnOf x qual (defArgs st) (defBody st) (defScope st) .none kV doc pm an cdv ct) ⟨us, ks.zip ws⟩ = pure (ps.zip (arr .none p (us ++ ws))))
    (hl : ∀ i ∈ p, i < n + ks.length) (hp : p.length = ps.length) : KwB K fd ps ks n p := by
  obtain ⟨oc, od, kV, doc, pm, an, cdv, ct, osl, rfl, lk, hcd⟩ := F.ex
  exact ⟨fun s us ws h1 h2 => .of_eq (h kV doc pm an cdv ct us ws h1 h2), hl, hp⟩
end
end DL
namespace DL
open PySem PySem.Spec PyProof.Rows L2 LamX
theorem cx_no {P : Program} {w : World} {H : Hp} {s : Shared} {e : Value} {s' : Shared} (h : L2.CX P w [] H s (fun _ _ _ => False) e s') : False := by
  obtain ⟨_, _, _, _, _, _, _, _, _, _, _, _, z⟩ := h
  exact z.elim
theorem one_tab {T : List (Addr × Str)} (d : T.Pairwise fun x y => x.1 ≠ y.1) {P : Addr} {q : Str} (h : (P, q) ∈ T) {p : Addr × Str} (hp : p ∈ T) (e : p.1 = P) : p.2 = q := by
  induction T with
  | nil => cases h
  | cons x T ih =>
    rw [List.pairwise_cons] at d
    rcases List.mem_cons.mp h with h1 | h1 <;> rcases List.mem_cons.mp hp with h2 | h2
    · rw [h2, ← h1]
    · exact absurd (show x.1 = p.1 by rw [← h1]; exact e.symm) (d.1 p h2)
    · exact absurd (show x.1 = P by rw [← h2]; exact e) (d.1 (P, q) h1)
    · exact ih d.2 h1 h2
/-- the promise of law(script) -/
theorem law_sp {K : PySem.W.Frag} {R : FR} {T : List (Addr × Str)} {H : Hp} {a : Addr} {ns : List Int} (hT : ∀ x ∈ T, H x.1 = some (.tbl #[])) (hs : SqL K H a (ns.map V.int)) (hR : R ⟨[.dat (scrD ns)], T⟩ (.rt (.bool true) ⟨[.dat (scrD ns)], T⟩)) :
    spF K R [.ref a] H (fun v _ => v = .bl true) (fun _ _ _ => False) := by
  have fin : ∀ F : Hp, Ex F H → (∀ b o, F b = some o → NoTbl o) → SqL K F a (ns.map V.int) → spF K R [.ref a] H (fun v _ => v = .bl true) (fun _ _ _ => False) := fun F eF nt hF =>
    ⟨⟨[.dat (scrD ns)], T⟩, F, fun _ _ => False, _, ⟨eF, rfl, fun i x h => by
      cases i with
      | zero => simp at h; subst h; exact ⟨.ref a, rfl, .scr hF⟩
      | succ i => simp at h, fun x hx => TabS.nil (hT x hx), fun _ _ _ _ h => h.elim, fun _ _ h => h.elim, fun _ _ h => h.elim, nt⟩, hR, fun v H' F' fp' e st av => by cases av; rfl⟩
  rcases hs with hr | hk
  · have mk : ∀ o, H a = some o → NoTbl o → Rd (fun b => if b = a then H b else none) a (.lst (ns.map V.int)) → spF K R [.ref a] H (fun v _ => v = .bl true) (fun _ _ _ => False) := fun o ho hn hr' => by
      refine fin (fun b => if b = a then H b else none) (fun b u q => ?_) (fun b u q => ?_) (.inl hr')
      · have q : (if b = a then H b else none) = some u := q
        split at q
        · exact q
        · cases q
      · have q : (if b = a then H b else none) = some u := q
        by_cases e : b = a
        · rw [if_pos e, e, ho] at q; cases q; exact hn
        · rw [if_neg e] at q; cases q
    rcases hr with h | ⟨o, h⟩
    · exact mk _ h (by intro ps z; cases z) (.inl (by simp [h]))
    · exact mk _ h (by intro ps z; cases z) (.inr ⟨o, by simp [h]⟩)
  · exact fin (fun _ => none) (fun _ _ q => nomatch q) (fun _ _ q => nomatch q) (.inr hk)
theorem law_at {l : PySem.W.OpenLaw} {w : World} {K : PySem.W.Frag} {CX : CXT} {k n : Nat} {mg : Str → Option Value} {fa : Addr} {h : Heap} {fd : FuncData} {R : FR} {ta : List (Addr × Str)} {cs : List (Addr × Addr)}
    (hT : ∀ p ∈ cs, h.get? p.2 = some { cls := .none, data := .fields #[] }) (nT : ∀ p ∈ cs, K.lookup p.2 = none) (hC : ∀ p ∈ cs, PySem.W.CodeHd h p.1 p.2)
    (hb : ∀ (s : Shared) (u : Value), BindsTo s fd ⟨[u], []⟩ [("script", u)]) (hcs : ∀ x ∈ ta, ∃ c, (c, x.1) ∈ cs)
    (hR : ∀ ns : List Int, ns.length ≤ n → R ⟨[.dat (scrD ns)], ta⟩ (.rt (.bool true) ⟨[.dat (scrD ns)], ta⟩))
    (hF : ∀ base : Heap, K.In base → base.Ns mainGlobals mg → (∀ p ∈ cs, TabB base mg p.1 p.2) → FnOk l.prog w K mg base CX k fa fd ["script"] (spF K R)) : LawAtS l w K CX k n "script" mg fa h :=
  ⟨fd, cs, spF K R, hT, nT, hC, hb, fun H a ns hl _ ht hs => law_sp (fun x hx => by obtain ⟨c, hc⟩ := hcs x hx; exact ht _ hc) hs (hR ns hl), hF⟩
end DL

namespace CM
open PySem PySem.Spec PyProof.Rows L2 DL
/-! ### the dice -/
structure Dice where
  a : Int
  b : Int
  c : Int
def dl (d : Dice) : List D := [.int d.a, .int d.b, .int d.c]
def rd (d : Dice) (t : Int) : Dice := if 0 < d.a then ⟨d.a / t, d.b, d.c⟩ else ⟨d.a, (d.b * 52501 + (d.c + 1) * (d.c + 1) * 1009 + 77) % 2147480009, d.c + 1⟩
def rv (d : Dice) (t : Int) : Int := if 0 < d.a then d.a % t else (rd d t).b / 211 % t
structure DOk (n : Int) (d : Dice) : Prop where
  b0 : 0 ≤ d.b
  b1 : d.b < 2147480009
  c0 : 0 ≤ d.c
  c1 : d.c ≤ n
theorem DOk.rd {n t : Int} {d : Dice} (h : DOk n d) : DOk (n + 1) (CM.rd d t) := by
  unfold CM.rd
  have := h.b0; have := h.b1; have := h.c0; have := h.c1
  split
  · exact ⟨h.b0, h.b1, h.c0, by show d.c ≤ n + 1; omega⟩
  · refine ⟨Int.emod_nonneg _ (by decide), Int.emod_lt_of_pos _ (by decide), by show 0 ≤ d.c + 1; omega, by show d.c + 1 ≤ n + 1; omega⟩
theorem DOk.up {n m : Int} {d : Dice} (h : DOk n d) (hm : n ≤ m) : DOk m d := ⟨h.b0, h.b1, h.c0, Int.le_trans h.c1 hm⟩
theorem rv0 {d : Dice} {t : Int} (ht : 0 < t) : 0 ≤ rv d t := by unfold rv; split <;> exact Int.emod_nonneg _ (by omega)
theorem rv1 {d : Dice} {t : Int} (ht : 0 < t) : rv d t < t := by unfold rv; split <;> exact Int.emod_lt_of_pos _ ht
def pick (d : Dice) (xs : List D) : D := xs.getD (rv d xs.length).toNat .none
theorem pick_mem {d : Dice} {xs : List D} (h : xs ≠ []) : pick d xs ∈ xs := by
  have hl : 0 < xs.length := List.length_pos_iff.mpr h
  have h0 := rv0 (d := d) (t := xs.length) (by omega)
  have h1 := rv1 (d := d) (t := xs.length) (by omega)
  unfold pick
  have hi : (rv d xs.length).toNat < xs.length := by omega
  rw [List.getD_eq_getElem?_getD, List.getElem?_eq_getElem hi]
  exact List.getElem_mem _
theorem pick_at {d : Dice} {xs : List D} (h : xs ≠ []) : atI xs (rv d xs.length) = some (pick d xs) := by
  have hl : 0 < xs.length := List.length_pos_iff.mpr h
  have h0 := rv0 (d := d) (t := xs.length) (by omega)
  have h1 := rv1 (d := d) (t := xs.length) (by omega)
  have hi : (rv d xs.length).toNat < xs.length := by omega
  have e : ixN xs.length (rv d xs.length) = some (rv d xs.length).toNat := by
    unfold ixN
    simp [h0, h1, hi]
  unfold atI pick
  rw [e]
  show xs[(rv d xs.length).toNat]? = _
  rw [List.getD_eq_getElem?_getD, List.getElem?_eq_getElem hi]
  rfl
end CM

namespace DL
open PySem PySem.Spec PyProof.Rows L2
/-! ### zip of two sequences, each a list or a tuple -/
def SqK (k : Bool) (K : PySem.W.Frag) (H : Hp) (a : Addr) (xs : List V) : Prop := if k = true then SqL K H a xs else SqT K H a xs
def IsSq (k : Bool) (h : Heap) (a : Addr) (its : Array Value) : Prop := if k = true then h.IsList a its else h.IsTuple a its
def IsSqI (k : Bool) (h : Heap) (it a : Addr) (i : Nat) : Prop := if k = true then h.IsListIter it a i else h.IsTupleIter it a i
def itO (k : Bool) (a : Addr) : Obj := { cls := .type (if k = true then "list_iterator" else "tuple_iterator"), data := .fields #[.ref a, .int 0 0] }
section
variable {X : Cx} {pins : List (Addr × Obj)} {s : Shared} {σ : L2.St} {H : Hp} {k k1 k2 : Bool} {a b : Addr} {xs ys : List V}
theorem sqk_items (I : Inv X pins σ H s) (h : SqK k X.K H a xs) : ∃ its : List Value, Vals xs its ∧ IsSq k s.heap a its.toArray ∧ a < s.heap.objs.size := by
  cases k with
  | true =>
    obtain ⟨its, r, p, _⟩ := I.list (show SqL X.K H a xs from h)
    exact ⟨its, r, p.isList, p.lt⟩
  | false =>
    obtain ⟨its, r, p, _⟩ := I.tuple (show SqT X.K H a xs from h)
    have p' : s.heap.IsTuple a its.toArray := p
    obtain ⟨o, ho, _⟩ := id p'
    exact ⟨its, r, p', Heap.lt_size ho⟩
theorem sqk_inj (I : Inv X pins σ H s) (h : SqK k X.K H a xs) (h' : SqK k X.K H a ys) : xs = ys := by
  cases k with
  | true => exact I.list_inj (show SqL X.K H a xs from h) (show SqL X.K H a ys from h')
  | false => exact I.tuple_inj (show SqT X.K H a xs from h) (show SqT X.K H a ys from h')
theorem sqk_draws {prog : Program} {w : World} {A : Around} (hh : A.handled = none) (it : Addr) (hne : a ≠ it) (items : Array Value) : Draws prog w A it [it, a] items.size (fun i v => items[i]? = some v) (fun i h => IsSqI k h it a i ∧ IsSq k h a items) := by
  cases k with
  | true => exact Draws.list hh it a hne items
  | false => exact Draws.tuple hh it a hne items
theorem sqk_begins (items : Array Value) : Begins (.ref a) (itO k a) fun h => IsSq k h a items := by
  cases k with
  | true => exact begins_list a items
  | false => exact begins_tuple a items
theorem sqi_at {h h' : Heap} {it : Addr} {i : Nat} (x : IsSqI k h it a i) (hk : ∀ o, h.get? it = some o → h'.get? it = some o) : IsSqI k h' it a i := by
  cases k with
  | true => exact Heap.IsListIter.at (show h.IsListIter it a i from x) hk
  | false => exact Heap.IsTupleIter.at (show h.IsTupleIter it a i from x) hk
theorem sqi_obj {h : Heap} {it : Addr} {i : Nat} (x : IsSqI k h it a i) : ∃ o, h.get? it = some o ∧ ∀ v, o.data ≠ .cell v := by
  cases k with
  | true =>
    obtain ⟨o, e, _, d⟩ := (show h.IsListIter it a i from x)
    exact ⟨o, e, fun v q => by rw [d] at q; cases q⟩
  | false =>
    obtain ⟨o, e, _, d⟩ := (show h.IsTupleIter it a i from x)
    exact ⟨o, e, fun v q => by rw [d] at q; cases q⟩
end
def ItzU (K : PySem.W.Frag) (k1 k2 : Bool) (a b : Addr) : It where
  go := fun i H => ∃ (xs ys : List V) (x y : V), SqK k1 K H a xs ∧ SqK k2 K H b ys ∧ xs[i]? = some x ∧ ys[i]? = some y
  yld := fun i H v H' => ∃ T x y, v = .ref T ∧ H T = none ∧ H' = upd H T (.tup [x, y]) ∧ (∀ xs, SqK k1 K H a xs → xs[i]? = some x) ∧ ∀ ys, SqK k2 K H b ys → ys[i]? = some y
  stop := fun i H => ∃ xs ys : List V, SqK k1 K H a xs ∧ SqK k2 K H b ys ∧ i ≤ xs.length ∧ i ≤ ys.length ∧ (i = xs.length ∨ i = ys.length)
theorem sq_len {k : Bool} {K : PySem.W.Frag} : True := trivial
theorem turn_zipU {P : Program} {w : World} {K : PySem.W.Frag} {elts : List Expr} {kk : Nat} {tpos : Pos} {k1 k2 : Bool} {a b z TI TO i1 i2 : Addr} (S : ZipSep2 z TI TO i1 i2 [i1, a] [i2, b]) (ha : a ≠ i1) (hb : b ≠ i2) :
    Turn P w K (.Tuple elts kk tpos) (ItzU K k1 k2 a b) [z, TI, TO, i1, i2] z (fun i h => IsZip h z TI TO .none ∧ IsTupOf2 h TI (.ref i1) (.ref i2) ∧ (∃ x y, IsTupOf2 h TO x y) ∧ IsSqI k1 h i1 a i ∧ IsSqI k2 h i2 b i) where
  mem := by simp
  obj := fun i h ⟨hz, hTI, ⟨x, y, hTO⟩, h1, h2⟩ c hc => by
    simp only [List.mem_cons, List.not_mem_nil, or_false] at hc
    rcases hc with rfl | rfl | rfl | rfl | rfl
    · exact ⟨_, hz, fun v q => nomatch q⟩
    · exact ⟨_, hTI, fun v q => nomatch q⟩
    · exact ⟨_, hTO, fun v q => nomatch q⟩
    · exact sqi_obj h1
    · exact sqi_obj h2
  keep := fun i h h' ⟨hz, hTI, ⟨x, y, hTO⟩, h1, h2⟩ kp => ⟨kp z (by simp) _ hz, kp TI (by simp) _ hTI, ⟨x, y, kp TO (by simp) _ hTO⟩, sqi_at h1 fun o q => kp i1 (by simp) o q, sqi_at h2 fun o q => kp i2 (by simp) o q⟩
  item := by
    intro X hP hw hK hc i pins s σ H E I hf st hg
    subst hP hw hK
    obtain ⟨hz, hTI, ⟨x0, y0, hTO⟩, h1, h2⟩ := st
    obtain ⟨xs, ys, x, y, hqx, hqy, hx, hy⟩ := hg
    obtain ⟨its, rv, p, _⟩ := sqk_items I hqx
    obtain ⟨its2, rv2, p2, _⟩ := sqk_items I hqy
    obtain ⟨u, hu, ru⟩ := rv.get hx
    obtain ⟨u2, hu2, ru2⟩ := rv2.get hy
    have hh : X.A.in1.handled = none := I.ok.hd hc
    have zlt : z < s.heap.objs.size := Heap.lt_size hz
    have l1 : i < its.toArray.size := by simpa using (List.getElem?_eq_some_iff.mp hu).1
    have l2 : i < its2.toArray.size := by simpa using (List.getElem?_eq_some_iff.mp hu2).1
    refine wpAny_pyNext_zipD2_item S (sqk_draws hh i1 ha its.toArray) (sqk_draws hh i2 hb its2.toArray) hz hTI hTO ⟨h1, p⟩ ⟨h2, p2⟩ l1 l2 fun x1 x2 h' tk e1 e2 z' TO' h1' h2' hT hsz hk => ?_
    have e1' : its[i]? = some x1 := by simpa using e1
    have e2' : its2[i]? = some x2 := by simpa using e2
    rw [hu] at e1'; cases e1'
    rw [hu2] at e2'; cases e2'
    refine ⟨_, rfl, wpAny_letOwnedTupleGo_zip (s := { s with heap := h', toks := tk }) z' fun h'' z'' sb => ?_⟩
    have hT2 : h''.get? s.heap.objs.size = some { cls := .type "tuple", data := .seq #[u, u2] } := (sb.2 _ (Nat.ne_of_gt zlt)).trans hT
    have new : ObjOk X.prog X.w (upd H s.heap.objs.size (.tup [x, y])) h'' s.heap.objs.size (.tup [x, y]) := ⟨by show 2 ≤ sizeLine; decide, [u, u2], .cons ru (.cons ru2 .nil), ⟨_, hT2, rfl, _, rfl⟩⟩
    have kp : ∀ c o, c ∉ [z, TI, TO, i1, i2] → s.heap.get? c = some o → h''.get? c = some o := fun c o hb q => by
      simp only [List.mem_cons, List.not_mem_nil, or_false, not_or] at hb
      exact (sb.2 c hb.1).trans (hk c o hb.1 hb.2.2.1 hb.2.2.2.1 hb.2.2.2.2 q)
    have I1 : Inv X pins σ (upd H s.heap.objs.size (.tup [x, y])) { s with heap := h'', toks := tk } := I.turnedNew (t' := tk) (ch := [z, TI, TO, i1, i2]) kp hf (Nat.le_refl _) new
    refine ⟨.ref s.heap.objs.size, _, I1, rfl, ⟨_, x, y, rfl, I.hok.fresh (Nat.le_refl _), rfl, fun l hl => by rw [sqk_inj I hl hqx]; exact hx, fun l hl => by rw [sqk_inj I hl hqy]; exact hy⟩, ⟨z'', ?_, ⟨u, u2, ?_⟩, ?_, ?_⟩, fun c hcm => ?_⟩
    · exact (sb.2 _ S.TIz).trans (hk _ _ S.TIz S.TITO S.TIi1 S.TIi2 hTI)
    · exact (sb.2 _ S.TOz).trans TO'
    · exact sqi_at h1'.1 fun o q => (sb.2 _ (fun e => S.zf1 (by rw [← e]; exact List.mem_cons_self))).trans q
    · exact sqi_at h2'.1 fun o q => (sb.2 _ (fun e => S.zf2 (by rw [← e]; exact List.mem_cons_self))).trans q
    · have hlt : c < s.heap.objs.size := by
        simp only [List.mem_cons, List.not_mem_nil, or_false] at hcm
        rcases hcm with rfl | rfl | rfl | rfl | rfl
        · exact zlt
        · exact Heap.lt_size hTI
        · exact Heap.lt_size hTO
        · obtain ⟨o, e, _⟩ := sqi_obj h1; exact Heap.lt_size e
        · obtain ⟨o, e, _⟩ := sqi_obj h2; exact Heap.lt_size e
      rw [upd_ne (Nat.ne_of_lt hlt)]
      exact (hf c hcm).1
  done := by
    intro X hP hw hK hc i pins s σ H E I hf st hg
    subst hP hw hK
    obtain ⟨hz, hTI, ⟨x0, y0, hTO⟩, h1, h2⟩ := st
    obtain ⟨xs, ys, hqx, hqy, hi1, hi2, hend⟩ := hg
    obtain ⟨its, rv, p, _⟩ := sqk_items I hqx
    obtain ⟨its2, rv2, p2, _⟩ := sqk_items I hqy
    have l1 := rv.length
    have l2 := rv2.length
    have hh : X.A.in1.handled = none := I.ok.hd hc
    refine wpAny_pyNext_zipD2_end S (sqk_draws hh i1 ha its.toArray) (sqk_draws hh i2 hb its2.toArray) hz hTI hTO ⟨h1, p⟩ ⟨h2, p2⟩ (by simp; omega) (by simp; omega) (by simp; omega) fun h' tk hk => ⟨rfl, ?_⟩
    refine I.turnedL (t' := tk) (ch := [z, TI, TO, i1, i2]) (fun c o hb q => ?_) hf
    simp only [List.mem_cons, List.not_mem_nil, or_false, not_or] at hb
    exact hk c o hb.1 hb.2.2.1 hb.2.2.2.1 hb.2.2.2.2 q
  self := fun A i s Q E st h => wpAny_pyIter_zip st.1 h
theorem nm2 {x y z : Nat} (h1 : x ≠ y) (h2 : x ≠ z) : x ∉ [y, z] := fun h => by
  rcases List.mem_cons.mp h with h | h
  · exact h1 h
  · exact h2 (List.mem_singleton.mp h)
theorem zip_sep (n a b : Nat) (la : a < n) (lb : b < n) : ZipSep2 (n + 4) (n + 2) (n + 3) n (n + 1) [n, a] [n + 1, b] where
  TIz := show (n + 2 : Nat) ≠ n + 4 by omega
  TOz := show (n + 3 : Nat) ≠ n + 4 by omega
  TITO := show (n + 2 : Nat) ≠ n + 3 by omega
  TIi1 := show (n + 2 : Nat) ≠ n by omega
  mem1 := List.mem_cons_self
  zf1 := nm2 (by omega) (by omega)
  Tf1 := nm2 (by omega) (by omega)
  TIi2 := show (n + 2 : Nat) ≠ n + 1 by omega
  mem2 := List.mem_cons_self
  zf2 := nm2 (by omega) (by omega)
  Tf2 := nm2 (by omega) (by omega)
  sep1_2 := nm2 (by omega) (by omega)
  sep2_1 := nm2 (by omega) (by omega)
theorem zip_five {n c : Nat} (h : c ∈ [n + 4, n + 2, n + 3, n, n + 1]) : n ≤ c := by
  simp only [List.mem_cons, List.not_mem_nil, or_false] at h
  omega
def iZipU (K : PySem.W.Frag) (ta : TA) : TI := fun σ H R => ta σ H fun vs H1 => ∃ a b xs ys k1 k2, vs = [.ref a, .ref b] ∧ SqK k1 K H1 a xs ∧ SqK k2 K H1 b ys ∧ R (ItzU K k1 k2 a b) H1
theorem pi_zipU {X : Cx} {e e2 : Expr} {ta : TA} {p pos tpos : Pos} {elts : List Expr} {kk : Nat} (hg : Gl X "zip") (hm : X.mg "zip" = none) (ha : PA X [e, e2] ta)
    (hs : starEach [e, e2] X.env = (false, eval e X.env) :: starEach [e2] X.env := by rfl) (hpl : (backTo pos (starEach [e2] X.env)).any (·.1) = false := by rfl) : PI X (.Tuple elts kk tpos) (.Call (.Name "zip" p) [e, e2] [] pos) (iZipU X.K ta) := by
  refine ⟨fun pins s σ H R I h => Call_ (ld_blt I hg hm PyProof.Rows.boot_zip (PyProof.Rows.callWith_type1 (thn (ha.run pos pins s σ H _ I h) fun us s1 ⟨vs, H1, I1, r1, q1⟩ => ?_) hs hpl))⟩
  obtain ⟨a, b, xs, ys, k1, k2, ex, hqx, hqy, q⟩ := q1
  subst ex
  obtain ⟨rfl⟩ : us = [.ref a, .ref b] := by
    cases r1 with
    | cons r rr =>
      cases rr with
      | cons r' rr =>
        cases rr; cases r; cases r'; rfl
  obtain ⟨its, rv, p1, la⟩ := sqk_items I1 hqx
  obtain ⟨its2, rv2, p2, lb⟩ := sqk_items I1 hqy
  refine zip_begins2 (sqk_begins its.toArray) (sqk_begins its2.toArray) p1 p2 fun h' hz hTI hTO g1 g2 hsz hk => wpAny_pyIter_zip hz ?_
  have I2 : Inv X pins σ H1 { s1 with heap := h' } := I1.kept (t' := s1.toks) hk
  have S := zip_sep s1.heap.objs.size a b la lb
  have T := turn_zipU (P := X.prog) (w := X.w) (K := X.K) (elts := elts) (kk := kk) (tpos := tpos) (k1 := k1) (k2 := k2) S (Nat.ne_of_lt la) (Nat.ne_of_lt (Nat.lt_succ_of_lt lb))
  refine ⟨_, _, _, _, H1, rfl, I2, T, ⟨hz, hTI, ⟨_, _, hTO⟩, ?_, ?_⟩, fun c hcm => ?_, q⟩
  · cases k1 with
    | true => exact ⟨_, g1, rfl, rfl⟩
    | false => exact ⟨_, g1, rfl, rfl⟩
  · cases k2 with
    | true => exact ⟨_, g2, rfl, rfl⟩
    | false => exact ⟨_, g2, rfl, rfl⟩
  · have hle : s1.heap.objs.size ≤ c := zip_five hcm
    exact I1.fpOk hle (I1.hok.fresh hle)
/-! ### what is zipped, by data -/
def seqD : D → Option (List D)
  | .list ds => some ds
  | .tuple ds => some ds
  | _ => none
theorem at_seq {K : PySem.W.Frag} {F : Hp} {v : V} {d : D} {ds : List D} (h : At K F v d) (e : seqD d = some ds) : ∃ (k : Bool) (a : Addr) (vs : List V), v = .ref a ∧ SqK k K F a vs ∧ AtAll K F vs ds := by
  cases h with
  | lst h t => cases e; exact ⟨true, _, _, rfl, .inl (.inl h), t⟩
  | tup h t => cases e; exact ⟨false, _, _, rfl, h, t⟩
  | non => cases e
  | bl b => cases e
  | int i => cases e
  | str x => cases e
  | dic h t => cases e
  | scr h => cases e
theorem Ex.sqK {K : PySem.W.Frag} {H H' : Hp} {a : Addr} {xs : List V} {k : Bool} (e : Ex H H') (h : SqK k K H a xs) : SqK k K H' a xs := by
  cases k with
  | true => exact e.sqL (show SqL K H a xs from h)
  | false => exact e.sqT (show SqT K H a xs from h)
def zipD (xs ys : List D) : List D := (xs.zip ys).map fun p => .tuple [p.1, p.2]
theorem it_zip {K : PySem.W.Frag} {s s1 : S} {ta : TA} {d1 d2 : D} {xs ys : List D} (h : EvA K ta s [d1, d2] s1) (h1 : seqD d1 = some xs) (h2 : seqD d2 = some ys) : IterD K (iZipU K ta) s (zipD xs ys) s1 := fun σ H F fp e R r =>
  h σ H F fp e _ fun vs H1 F1 fp1 e1 st1 a1 => by
    match vs, a1 with
    | [v1, v2], .cons b1 (.cons b2 .nil) =>
      obtain ⟨k1, a, us, rfl, q1, t1⟩ := at_seq b1 h1
      obtain ⟨k2, b, ws, rfl, q2, t2⟩ := at_seq b2 h2
      have l1 := t1.length
      have l2 := t2.length
      refine ⟨a, b, us, ws, k1, k2, rfl, e1.ex.sqK q1, e1.ex.sqK q2, r _ H1 F1 fp1 e1 st1 fun F' H' i hF hH => ⟨fun d hd => ?_, fun hi => ?_⟩⟩
      · unfold zipD at hd
        obtain ⟨p, hp, rfl⟩ := map_at hd
        obtain ⟨p1, p2⟩ := List.getElem?_zip_eq_some.mp hp
        obtain ⟨u, hu, hau⟩ := t1.get p1
        obtain ⟨w, hw, haw⟩ := t2.get p2
        refine ⟨⟨us, ws, u, w, hH.sqK (hF.sqK q1), hH.sqK (hF.sqK q2), hu, hw⟩, fun x H2 hy => ?_⟩
        obtain ⟨T, x', y', rfl, hT, rfl, f1, f2⟩ := hy
        have ex := f1 us (hH.sqK (hF.sqK q1))
        have ey := f2 ws (hH.sqK (hF.sqK q2))
        rw [hu] at ex; cases ex
        rw [hw] at ey; cases ey
        have g := Grow.laid (o := .tup [u, w]) hH hT
        exact ⟨_, g, .tup (.inl (.inl upd_same)) ((AtAll.cons (hau.ex hF) (.cons (haw.ex hF) .nil)).ex g.f)⟩
      · unfold zipD at hi
        rw [List.length_map, List.length_zip] at hi
        exact ⟨us, ws, hH.sqK (hF.sqK q1), hH.sqK (hF.sqK q2), by omega, by omega, by omega⟩
end DL

namespace SrtO
open PySem PyProof.Rows Srt
section
variable {prog : Program} {w : World} {A : Around} {E : Value → Shared → Prop} {s : Shared}
/-- sorted of a list or a tuple: the new list's place is told by no more than that it is new -/
theorem sorted_any {t : Addr} {T : String} {ot : Obj} {vs : List Value} {n : Nat} {ltv : Value → Value → Bool} {Q : Value → Shared → Prop} (O : Swo ltv) (hT : T = "list" ∨ T = "tuple") (ht : s.heap.get? t = some ot) (hc : ot.cls = .type T) (hd : ot.data = .seq vs.toArray n) (hz : vs.length ≤ sizeLine)
    (hS : 2 ≤ vs.length → ∀ (h1 : Heap) (a : Addr), h1.get? a = some (seqObj "list" vs.toArray 0) → (∀ b o, s.heap.get? b = some o → b ≠ a ∧ h1.get? b = some o) → SortableO prog w A.in1.in1 { s with heap := h1 } a vs ltv)
    (h : ∀ (out : List Value) (h2 : Heap) (a e : Nat), Srtd ltv out → Stb ltv out vs → s.heap.get? a = none → (∀ b o, s.heap.get? b = some o → h2.get? b = some o) → h2.get? a = some (seqObj "list" out.toArray e) → Q (.ref a) { s with heap := h2 }) :
    wpAny (model prog w) A (call (.builtin "sorted") [.ref t]) Q E s := by
  refine Calls.call_function_entry kind_sorted plain_sorted entry_sorted (args_sorted1 _) ?_
  show wpAny _ _ (checkCount "sorted" 1 1 _ >>= _) _ _ _
  refine wpAny_bind (wpAny_pure (wpAny_bind (wpAny_collect_seq t hT ht hc hd (fun g kp => ?_) (by rw [List.size_toArray]; exact hz))))
  have hoL : (g.push (seqObj "list" vs.toArray 0)).get? g.objs.size = some (seqObj "list" vs.toArray 0) := Heap.get?_push_size _ rfl
  have old : ∀ b o, s.heap.get? b = some o → b < g.objs.size := fun b o q => Heap.lt_size (kp b o q)
  have keep : ∀ b o, s.heap.get? b = some o → b ≠ g.objs.size ∧ (g.push (seqObj "list" vs.toArray 0)).get? b = some o := fun b o q => ⟨Nat.ne_of_lt (old b o q), Heap.get?_push_of_some _ (kp b o q)⟩
  refine wpAny_bind (wpAny_newList ?_ hz)
  refine wpAny_bind (wpAny_holding (wpAny_call_entry (s := { s with heap := g.push (seqObj "list" vs.toArray 0) }) slot_list_sort ⟨_, hoL, rfl⟩ entry_list_sort (list_sort_ord O hoL hz (fun h2 => hS h2 _ _ hoL keep) fun out hs hb => ⟨_, rfl, ?_⟩) (args_list_sort _)))
  obtain ⟨e, he⟩ := sortedHeap_at (out := out.toArray) hoL
  have big : s.heap.get? g.objs.size = none := by
    cases q : s.heap.get? g.objs.size with
    | none => rfl
    | some o => exact absurd (old _ o q) (Nat.lt_irrefl _)
  refine wpAny_pure ⟨_, rfl, h out _ _ e hs hb big (fun b o q => ?_) he⟩
  have := keep b o q
  rw [sortedHeap_old this.1 (by rw [Heap.size_push]; exact Nat.lt_succ_of_lt (old b o q))]
  exact this.2
end
end SrtO
namespace DL
open PySem PySem.Spec PyProof.Rows L2
def sortOkV : List D → Prop
  | [.list ds] => (intsOf ds).isSome = true
  | [.tuple ds] => (intsOf ds).isSome = true
  | _ => False
def sortLV : List D → List D
  | [.list ds] => (sortI ((intsOf ds).getD [])).map PyData.int
  | [.tuple ds] => (sortI ((intsOf ds).getD [])).map PyData.int
  | _ => []
section
variable {X : Cx}
theorem sort_sq {k : Bool} {pins : List (Addr × Obj)} {s : Shared} {σ : L2.St} {H : Hp} {a : Addr} {ns : List Int} {Q : VK} (I : Inv X pins σ H s) (hs : SqK k X.K H a (ns.map V.int))
    (q : ∀ (ns' : List Int) (p : Addr), ns'.Perm ns → ns'.Pairwise (· ≤ ·) → H p = none → Q (.ref p) (upd H p (.lst (ns'.map V.int)))) : wpAny (model X.prog X.w) X.A (call (.builtin "sorted") [.ref a]) (EP X pins σ Q) X.xe s := by
  have base : ∃ (its : List Value) (T : String) (ot : Obj) (n : Nat), Vals (ns.map V.int) its ∧ (T = "list" ∨ T = "tuple") ∧ s.heap.get? a = some ot ∧ ot.cls = .type T ∧ ot.data = .seq its.toArray n ∧ its.length ≤ sizeLine := by
    cases k with
    | true =>
      obtain ⟨its, rv, hl, hz⟩ := I.list (show SqL X.K H a _ from hs)
      obtain ⟨o, n, h1, h2, _, h3⟩ := hl
      exact ⟨its, "list", o, n, rv, .inl rfl, h1, h2, h3, by rw [← rv.length]; exact hz⟩
    | false =>
      obtain ⟨its, rv, hl, hz⟩ := I.tuple (show SqT X.K H a _ from hs)
      obtain ⟨o, h1, h2, n, h3⟩ := hl
      exact ⟨its, "tuple", o, n, rv, .inr rfl, h1, h2, h3, by rw [← rv.length]; exact hz⟩
  obtain ⟨its, T, ot, n, rv, hT, h1, h2, h3, hz⟩ := base
  have hi := rv.ints
  refine SrtO.sorted_any SrtO.swo_int hT h1 h2 h3 hz (fun h2 h₁ a' _ _ => SrtO.ints_sortable hi h2) fun out g p e s1 s2 hp kp hg => ?_
  obtain ⟨k1, k2, k3⟩ := SrtO.ints_out hi s1 s2
  have hn : H p = none := I.hok.gone hp
  have hlen : ((out.map SrtO.iv).map V.int).length ≤ sizeLine := by
    rw [List.length_map, k2.length_eq, ← List.length_map (f := V.int), rv.length]
    exact hz
  exact ⟨.ref p, upd H p (.lst ((out.map SrtO.iv).map V.int)), I.laidN (t' := s.toks) kp hp hn ⟨hlen, out, e, vals_of_ints k1, hg⟩, rfl, q _ _ k2 k3 hn⟩
theorem call_sortV : CallR X (.builtin "sorted") (rDl X.K sortOkV sortLV) := by
  intro pins s σ H xs us Q I r ⟨F, ds, e, ha, ok, k⟩
  match ds, ok, ha with
  | [.list ds], o2, .cons h1 .nil =>
    obtain ⟨p, vs, rfl, h2, h3⟩ := h1.lst e
    obtain ⟨ns, hn⟩ := Option.isSome_iff_exists.mp o2
    have ee := intsOf_eq hn
    subst ee
    rw [h3.ints] at h2
    rw [Vals.ref1 r]
    refine sort_sq (k := true) I (show SqL X.K H p _ from .inl (.inl h2)) fun ns' q hp hs hq => ?_
    have e1 : ns' = sortI ns := sorted_unique (hp.trans (sortI_perm ns).symm) hs (sortI_sorted ns)
    have : sortLV [.list (ns.map PyData.int)] = (sortI ns).map PyData.int := by simp only [sortLV, hn, Option.getD_some]
    rw [this] at k
    subst e1
    exact k q _ hq AtAll.of_ints
  | [.tuple ds], o2, .cons h1 .nil =>
    obtain ⟨p, vs, rfl, h2, _, h3⟩ := h1.tup e
    obtain ⟨ns, hn⟩ := Option.isSome_iff_exists.mp o2
    have ee := intsOf_eq hn
    subst ee
    rw [h3.ints] at h2
    rw [Vals.ref1 r]
    refine sort_sq (k := false) I (show SqT X.K H p _ from h2) fun ns' q hp hs hq => ?_
    have e1 : ns' = sortI ns := sorted_unique (hp.trans (sortI_perm ns).symm) hs (sortI_sorted ns)
    have : sortLV [.tuple (ns.map PyData.int)] = (sortI ns).map PyData.int := by simp only [sortLV, hn, Option.getD_some]
    rw [this] at k
    subst e1
    exact k q _ hq AtAll.of_ints
end
section
variable {K : PySem.W.Frag} {s s1 : S} {te : TE} {ns : List Int}
theorem ev_sortL (h : Ev K te s (.list (ns.map PyData.int)) s1) : Ev K (tCB (rDl K sortOkV sortLV) (tCons te tNil)) s (.list ((sortI ns).map PyData.int)) s1 := by
  refine (ev_cl (ea_cons h ea_nil) (by show (intsOf (ns.map PyData.int)).isSome = true; rw [intsOf_map]; rfl)).to ?_
  simp [sortLV, intsOf_map]
theorem ev_sortT (h : Ev K te s (.tuple (ns.map PyData.int)) s1) : Ev K (tCB (rDl K sortOkV sortLV) (tCons te tNil)) s (.list ((sortI ns).map PyData.int)) s1 := by
  refine (ev_cl (ea_cons h ea_nil) (by show (intsOf (ns.map PyData.int)).isSome = true; rw [intsOf_map]; rfl)).to ?_
  simp [sortLV, intsOf_map]
end
end DL
namespace DL
open PySem PySem.Spec PyProof.Rows L2
/-! ### a tuple some times over -/
theorem rep_len {α : Type} (n : Nat) (l : List α) : (List.replicate n l).flatten.length = n * l.length := PyProof.Rows.lm_len_rep_flat ..
theorem mul_small {n : Nat} {k : Int} (h1 : 2 ≤ k) (h : n * k.toNat ≤ 1000000) : ((n : Nat) : Int) * k ≤ 1000000 := by
  have e : ((k.toNat : Nat) : Int) = k := by omega
  rw [← e, ← Int.natCast_mul]
  omega
theorem tup_times {X : Cx} {pins : List (Addr × Obj)} {s : Shared} {σ : L2.St} {H : Hp} {l : Addr} {k : Int} {t : Tok} {xs : List V} {Q : VK} (I : Inv X pins σ H s) (hT : SqT X.K H l xs) (hne : xs ≠ []) (h1 : 2 ≤ k) (hz : xs.length * k.toNat ≤ 1000000)
    (q : ∀ p, H p = none → Q (.ref p) (upd H p (.tup (List.replicate k.toNat xs).flatten))) : wpAny (model X.prog X.w) X.A (binaryOp .Mult (.ref l) (.int k t)) (EP X pins σ Q) X.xe s := by
  obtain ⟨its, r, ⟨⟨cls, dd, data, sl⟩, ho, hc, n, hd⟩, hs⟩ := I.tuple hT
  obtain rfl : cls = .type "tuple" := hc
  obtain rfl : data = .seq its.toArray n := hd
  have hle : xs.length = its.length := r.length
  have hpos : 0 < its.length := by rw [← hle]; exact List.length_pos_iff.mpr hne
  have hm : ((its.toArray.size : Nat) : Int) * k ≤ 1000000 := by rw [List.size_toArray]; exact mul_small h1 (by rw [← hle]; exact hz)
  have e0 : its.toArray.isEmpty = false := by cases its with
    | nil => exact absurd hpos (by simp)
    | cons a b => rfl
  have flat : (List.replicate k.toNat its).flatten.length ≤ sizeLine := by rw [rep_len, ← hle, Nat.mul_comm]; exact le_size (by omega)
  have hk : k ≤ 1000000 := by
    have a1 : 1 * k.toNat ≤ xs.length * k.toNat := Nat.mul_le_mul_right _ (by omega)
    omega
  have c0 : (decide (k < -(2 ^ 63)) || decide (k ≥ 2 ^ 63)) = false := by simp only [Bool.or_eq_false_iff, decide_eq_false_iff_not]; omega
  have c1 : (its.toArray.isEmpty || k == 1) = false := by simp only [e0, Bool.false_or, beq_eq_false_iff_ne]; omega
  have c2 : (decide (k ≤ 0) || its.toArray.isEmpty) = false := by simp only [e0, Bool.or_false, decide_eq_false_iff_not]; omega
  have c4 : Builtin.Tuple.tupleTooMany (((its.toArray.size : Nat) : Int) * k) = false := by
    unfold Builtin.Tuple.tupleTooMany
    rw [sizeLine_eq]
    simp only [decide_eq_false_iff_not]; omega
  have fin : ∀ s' : Shared, s' = { s with heap := s.heap.push { cls := .type "tuple", data := .seq (List.replicate k.toNat its).flatten.toArray } } → EP X pins σ Q (.ref s.heap.objs.size) s' := fun s' hs' => by
    subst hs'
    refine ⟨.ref s.heap.objs.size, _, I.laid (t' := s.toks) (o := .tup (List.replicate k.toNat xs).flatten) (fun b ob e => Heap.get?_push_of_some _ e) (Nat.le_refl _) ⟨?_, _, r.rep k.toNat, IsTup.new _ _⟩, rfl, q _ (I.hok.fresh (Nat.le_refl _))⟩
    rw [rep_len, hle, ← rep_len]
    exact flat
  have meets := tuple_mulW l its.toArray n dd sl k t c0 c1 c2 (by omega) c4 (by rw [size_rep, List.size_toArray]; exact flat)
  refine wpAny_binaryOp_repeat_ref (T := "tuple") (U := "int") (by decide) ⟨_, ho, rfl⟩ (fun s' => typeIs_int s' k t) noFill_tuple_mul F.fills_int_mul F.slot_int_rmul repeat_tuple F.slot_int_index.lookup ?_
  refine call_meets F.slot_int_rmul (typeIs_int s k t) F.entry_int_rmul (F.args_int_rmul_2 _ _) (int_rmul_tuple k t l its.toArray n dd sl) ⟨ho, rfl, ⟨_, ho, rfl⟩, ?_⟩
  refine call_meets F.slot_tuple_mul ⟨_, ho, rfl⟩ F.entry_tuple_mul (F.args_tuple_mul_2 _ _) meets ⟨ho, ?_⟩
  rw [size_rep]
  exact fin _ rfl
def mulOkV : D → D → Prop
  | .int a, .int b => CMul a b
  | .list a, .int k => -(2 ^ 63) ≤ k ∧ k < 2 ^ 63 ∧ a.length * k.toNat ≤ sizeLine
  | .tuple a, .int k => a ≠ [] ∧ 2 ≤ k ∧ a.length * k.toNat ≤ 1000000
  | _, _ => False
theorem op_mulV {X : Cx} : OpR X (binaryOp .Mult) (rD2 X.K mulOkV mulD) := by
  intro pins s σ H x y v u Q I rx ry ⟨F, dx, dy, e, hx, hy, ok, k⟩
  match dx, dy, ok with
  | .int i, .int j, ok => exact op_mulU pins s σ H x y v u Q I rx ry ⟨F, .int i, .int j, e, hx, hy, ok, k⟩
  | .list a, .int j, ok => exact op_mulU pins s σ H x y v u Q I rx ry ⟨F, .list a, .int j, e, hx, hy, ok, k⟩
  | .tuple a, .int j, ⟨o0, o1, o2⟩ =>
    obtain ⟨p, vs, rfl, h1, h1', h2⟩ := hx.tup e
    have q2 := hy.int
    subst q2
    cases rx
    obtain ⟨t, rfl⟩ := ry
    refine tup_times I h1 (fun z => o0 (by cases h2 with | nil => rfl | cons _ _ => cases z)) o1 (by rw [h2.length]; exact o2) fun r hr => ?_
    have g := Grow.laid (o := .tup (List.replicate j.toNat vs).flatten) e hr
    exact k _ _ _ g (.tup (.inl (.inl upd_same)) ((h2.flat _).ex g.f))
section
variable {K : PySem.W.Frag} {E : XK} {s s1 s2 : S} {ta tb te : TE} {a b : Int} {ds : List D} {ns : List Int} {i : Nat} {ov ov' : Option V}
theorem ev_mulVI (ha : Ev K ta s (.int a) s1) (hb : Ev K tb s1 (.int b) s2) (h : CMul a b) : Ev K (tOp (rD2 K mulOkV mulD) ta tb) s (.int (a * b)) s2 := ev_op ha hb h
theorem ev_mulVT (ha : Ev K ta s (.tuple ds) s1) (hb : Ev K tb s1 (.int b) s2) (h : ds ≠ [] ∧ 2 ≤ b ∧ ds.length * b.toNat ≤ 1000000) : Ev K (tOp (rD2 K mulOkV mulD) ta tb) s (.tuple (List.replicate b.toNat ds).flatten) s2 := ev_op ha hb h
theorem ev_mulVL (ha : Ev K ta s (.list ds) s1) (hb : Ev K tb s1 (.int b) s2) (h : -(2 ^ 63) ≤ b ∧ b < 2 ^ 63 ∧ ds.length * b.toNat ≤ sizeLine) : Ev K (tOp (rD2 K mulOkV mulD) ta tb) s (.list (List.replicate b.toNat ds).flatten) s2 := ev_op ha hb h
/-! ### an owned list of ints: min, index -/
theorem ev_minO (hi : s.s[i]? = some (.res (lstR K ov (ns.map PyData.int)))) (hn : ns ≠ []) : Ev K (tCB (rDn K mmOk minD) (tCons (tVar i) tNil)) s (.int (lmin ns)) s := by
  refine (ev_cb1 hi ⟨by simpa using hn, by rw [intsOf_map]; rfl⟩).to ?_
  show PyData.int (lmin ((intsOf (ns.map PyData.int)).getD [])) = _
  rw [intsOf_map]; rfl
theorem ints_shs {n : Nat} (ns : List Int) : Shs n (ns.map PyData.int) := shs_of fun d h => by
  obtain ⟨x, _, rfl⟩ := List.mem_map.mp h
  exact sh_int
theorem ev_indexO {n : Int} {j : Nat} (hi : s.s[i]? = some (.res (lstR K ov (ns.map PyData.int)))) (he : Ev K te s (.int n) s1) (hi1 : s1.s[i]? = some (.res (lstR K ov' (ns.map PyData.int)))) (hj : ns[j]? = some n) (hf : ∀ m, m < j → ns[m]? ≠ some n) :
    Ev K (tBM K "list" (rIndexD K) (tVar i) (tCons te tNil)) s (.int (j : Nat)) s1 := fun σ H F fp e Q q => by
  obtain ⟨a, vs, h1, _, h4, h5⟩ := e.own hi
  refine ⟨.ref a, h1, .inl ⟨rfl, _, .inl (.inl h4)⟩, he σ H F fp e _ fun v H1 F1 fp1 e1 st1 a1 => ?_⟩
  obtain ⟨a', vs', h1', _, h4', h5'⟩ := e1.own hi1
  rw [h1] at h1'
  cases h1'
  cases a1
  refine ⟨a, .int n, .int n, ns.map PyData.int, j, .int n, rfl, rfl, .lst (.inl (.inl h4')) (h5'.dp e1.ex (flats_of_canLay (ints_shs (n := 0) ns).1)), .int n, (sh_lst (n := 0) (ints_shs ns)).ok, sh_int.ok (n := 0), by rw [List.getElem?_map, hj]; rfl, by simp [PyData.eqv], fun m z hm hz => ?_, q _ H1 F1 fp1 e1 st1 (.int _)⟩
  obtain ⟨c, hc, rfl⟩ := map_at hz
  have : c ≠ n := fun w => hf m hm (by rw [hc, w])
  simpa [PyData.eqv] using this
end
end DL
namespace DL
open PySem PySem.Spec PyProof.Rows L2
/-! ### a sequence walked: a list or a tuple -/
def iSeq (K : PySem.W.Frag) (tl : TE) : TI := fun σ H R => tl σ H fun x H1 => ∃ (k : Bool) (a : Addr) (xs : List V), x = .ref a ∧ SqK k K H1 a xs ∧ R (if k = true then Itl K a else Itt K a) H1
theorem pi_seqU {X : Cx} {tg l : Expr} {tl : TE} (hl : PE X l tl) : PI X tg l (iSeq X.K tl) := by
  refine ⟨fun pins s σ H R I h => thn (hl.run pins s σ H _ I h) fun v s1 ⟨x, H1, I1, r1, k, a, xs, ex, hq, q⟩ => ?_⟩
  subst ex
  cases r1
  have fp : ∀ b ∈ [s1.heap.objs.size], FpOk X pins H1 b := fun b hb => by
    rw [List.mem_singleton.mp hb]
    exact I1.fpOk (Nat.le_refl _) (I1.hok.fresh (Nat.le_refl _))
  have I2 : ∀ o : Obj, Inv X pins σ H1 { s1 with heap := s1.heap.push o } := fun o => I1.kept (t' := s1.toks) fun b o e => Heap.get?_push_of_some _ e
  cases k with
  | true =>
    obtain ⟨its, rv, p, hz⟩ := I1.list (show SqL X.K H1 a xs from hq)
    exact wpAny_pyIter_list p.isList ⟨s1.heap.objs.size, _, _, _, H1, rfl, I2 _, turn_list a _, ⟨_, Heap.get?_push_size _ rfl, rfl, rfl⟩, fp, q⟩
  | false =>
    obtain ⟨its, rv, p, hz⟩ := I1.tuple (show SqT X.K H1 a xs from hq)
    exact wpAny_pyIter_tuple (show s1.heap.IsTuple a its.toArray from p) ⟨s1.heap.objs.size, _, _, _, H1, rfl, I2 _, turn_tuple a _, ⟨_, Heap.get?_push_size _ rfl, rfl, rfl⟩, fp, q⟩
theorem it_seq {K : PySem.W.Frag} {s s1 : S} {tl : TE} {d : D} {ds : List D} (h : Ev K tl s d s1) (hd : seqD d = some ds) : IterD K (iSeq K tl) s ds s1 := fun σ H F fp e R r =>
  h σ H F fp e _ fun v H1 F1 fp1 e1 st1 a1 => by
    obtain ⟨k, a, vs, rfl, hq, hv⟩ := at_seq a1 hd
    refine ⟨k, a, vs, rfl, e1.ex.sqK hq, r _ H1 F1 fp1 e1 st1 fun F' H' i hF hH => ⟨fun d hd => ?_, fun hi => ?_⟩⟩
    · obtain ⟨x, hx, _⟩ := hv.get hd
      have hq' := hH.sqK (hF.sqK hq)
      have fin : ∀ y : V, vs[i]? = some y → ∃ F2, Grow F' H' F2 H' ∧ At K F2 y d := fun y hy => by
        obtain ⟨d', hd', had⟩ := hv.getV hy
        rw [hd] at hd'
        cases hd'
        exact ⟨F', Grow.refl hH, had.ex hF⟩
      cases k with
      | true =>
        refine ⟨⟨vs, x, hq', hx⟩, fun y H2 hy => ?_⟩
        obtain ⟨rfl, hy⟩ := hy
        exact fin y (hy vs hq')
      | false =>
        refine ⟨⟨vs, x, hq', hx⟩, fun y H2 hy => ?_⟩
        obtain ⟨rfl, hy⟩ := hy
        exact fin y (hy vs hq')
    · have hq' := hH.sqK (hF.sqK hq)
      have hl : vs.length ≤ i := by rw [hv.length]; exact Nat.le_of_eq hi.symm
      cases k with
      | true => exact ⟨vs, hq', hl⟩
      | false => exact ⟨vs, hq', hl⟩
end DL
namespace DL
open PySem PySem.Spec PyProof.Rows L2
section
variable {K : PySem.W.Frag} {E : XK} {s s1 s2 : S} {ta tb te : TE} {bs : List Bool} {ds : List D}
theorem ev_allL (h : Ev K te s (.list (bs.map PyData.bool)) s1) : Ev K (tCB (rDn K allOk allD) (tCons te tNil)) s (.bool (bs.all id)) s1 := by
  refine (ev_cb (ea_cons h ea_nil) (by show (boolsOf (bs.map PyData.bool)).isSome = true; rw [boolsOf_map]; rfl)).to ?_
  show PyData.bool (((boolsOf (bs.map PyData.bool)).getD []).all id) = _
  rw [boolsOf_map]; rfl
theorem ev_anyL (h : Ev K te s (.list (bs.map PyData.bool)) s1) : Ev K (tCB (rDn K allOk anyD) (tCons te tNil)) s (.bool (bs.any id)) s1 := by
  refine (ev_cb (ea_cons h ea_nil) (by show (boolsOf (bs.map PyData.bool)).isSome = true; rw [boolsOf_map]; rfl)).to ?_
  show PyData.bool (((boolsOf (bs.map PyData.bool)).getD []).any id) = _
  rw [boolsOf_map]; rfl
/-- a comprehension over data, no condition, nothing changed -/
theorem ev_lcM {wi : TI} {g : TG} {vs : List Nat} (y : D → D) (hw : IterD K wi s ds s1) (hz : ds.length ≤ sizeLine) (hr : NoRes s1 vs)
    (hs : ∀ d, d ∈ ds → ∃ s2, TgV K vs g (s1.wipe vs) d s2 ∧ SLe (s2.wipe vs) (s1.wipe vs) ∧ Ev K te s2 (y d) s2) : Ev K (tLc wi g tYes te vs) s (.list (ds.map y)) s1 := by
  refine (ev_lc (fun _ => true) y hw hz hr fun d hd => ?_).to (by rw [List.filter_eq_self.mpr (fun _ _ => rfl)])
  obtain ⟨s2, h1, h2, h3⟩ := hs d hd
  exact ⟨s2, h1, h2, et_yes, fun _ => h3⟩
end
theorem noRes_nil {s : S} : NoRes s [] := fun i x h => by simp at h
theorem noRes_cons {s : S} {j : Nat} {vs : List Nat} (h : ∀ x, s.s[j]? = some x → x = .unk ∨ ∃ d, x = .dat d) (t : NoRes s vs) : NoRes s (j :: vs) := fun i x hi hx => by
  rcases List.mem_cons.mp hi with rfl | hi
  · exact h x hx
  · exact t i x hi hx
theorem noRes_u {s : S} {j : Nat} {vs : List Nat} (h : s.s[j]? = some .unk) (t : NoRes s vs) : NoRes s (j :: vs) := noRes_cons (fun x hx => .inl (by rw [h] at hx; exact (Option.some.inj hx).symm)) t
theorem noRes_d {s : S} {j : Nat} {d : D} {vs : List Nat} (h : s.s[j]? = some (.dat d)) (t : NoRes s vs) : NoRes s (j :: vs) := noRes_cons (fun x hx => .inr ⟨d, by rw [h] at hx; exact (Option.some.inj hx).symm⟩) t
/-- what comes back behind a comprehension, slot by slot -/
inductive Bk (vs : List Nat) : Nat → List Sl → List Sl → List Sl → Prop
  | nil {i : Nat} : Bk vs i [] [] []
  | keep {i : Nat} {x y : Sl} {l m k : List Sl} (h : i ∉ vs) : Bk vs (i + 1) l m k → Bk vs i (x :: l) (y :: m) (y :: k)
  | unk {i : Nat} {x y : Sl} {l m k : List Sl} : Bk vs (i + 1) l m k → Bk vs i (x :: l) (y :: m) (.unk :: k)
  | own {i : Nat} {d : D} {y : Sl} {l m k : List Sl} (h : i ∈ vs) : Bk vs (i + 1) l m k → Bk vs i (.dat d :: l) (y :: m) (.dat d :: k)
theorem Bk.len {vs : List Nat} : ∀ {i : Nat} {l m k : List Sl}, Bk vs i l m k → k.length = l.length
  | _, _, _, _, .nil => rfl
  | _, _, _, _, .keep _ h => by simp [Bk.len h]
  | _, _, _, _, .unk h => by simp [Bk.len h]
  | _, _, _, _, .own _ h => by simp [Bk.len h]
theorem Bk.at {vs : List Nat} : ∀ {i : Nat} {l m k : List Sl}, Bk vs i l m k → ∀ (j : Nat) (x : Sl), k[j]? = some x → (i + j ∉ vs ∧ m[j]? = some x) ∨ x = .unk ∨ (i + j ∈ vs ∧ l[j]? = some x ∧ ∃ d, x = .dat d)
  | _, _, _, _, .nil, j, x, h => by simp at h
  | _, _, _, _, .keep h1 t, 0, x, h => by simp at h; subst h; exact .inl ⟨by simpa using h1, by simp⟩
  | _, _, _, _, .unk t, 0, x, h => by simp at h; exact .inr (.inl h.symm)
  | _, _, _, _, .own h1 t, 0, x, h => by simp at h; subst h; exact .inr (.inr ⟨by simpa using h1, by simp, _, rfl⟩)
  | i, _, _, _, .keep _ t, j + 1, x, h => by
    have := Bk.at t j x (by simpa using h)
    rw [show i + 1 + j = i + (j + 1) by omega] at this
    simpa using this
  | i, _, _, _, .unk t, j + 1, x, h => by
    have := Bk.at t j x (by simpa using h)
    rw [show i + 1 + j = i + (j + 1) by omega] at this
    simpa using this
  | i, _, _, _, .own _ t, j + 1, x, h => by
    have := Bk.at t j x (by simpa using h)
    rw [show i + 1 + j = i + (j + 1) by omega] at this
    simpa using this
theorem Bk.back {vs : List Nat} {s1 sn s' : S} (h : Bk vs 0 s1.s sn.s s'.s) (hg : s'.g = sn.g) : Back vs s1 sn s' := ⟨h.len, fun i x q => by
  have := h.at i x q
  rw [Nat.zero_add] at this
  exact this, hg⟩
end DL
namespace DL
open PySem PySem.Spec PyProof.Rows L2
section
variable {K : PySem.W.Frag} {E : XK} {s s0 s1 : S} {t : TS} {g : TG} {wi : TI} {ds : List D} {o : Out}
/-- for x in xs: .. where p x decides whether the body goes on or ends the loop -/
theorem run_forAll (p : D → Bool) (hw : IterD K wi s ds s1) (h0 : SLe s1 s0) (hp : ∀ d ∈ ds, p d = false) (hs : ∀ d, d ∈ ds → p d = false → ∃ s2, Tg K g s0 d s2 ∧ Run K E t s2 (.nx s0)) : Run K E (tFor wi g t) s (.nx s0) :=
  run_for (fun _ => s0) hw h0 fun i d hd => hs d (List.mem_of_getElem? hd) (hp d (List.mem_of_getElem? hd))
theorem run_forAny (p : D → Bool) (hw : IterD K wi s ds s1) (h0 : SLe s1 s0) (hp : ∃ d ∈ ds, p d = true) (hs : ∀ d, d ∈ ds → p d = false → ∃ s2, Tg K g s0 d s2 ∧ Run K E t s2 (.nx s0))
    (hr : ∀ d, d ∈ ds → p d = true → ∃ s2 o', Tg K g s0 d s2 ∧ Run K E t s2 o' ∧ o'.ends = true ∧ o = o'.out) : Run K E (tFor wi g t) s o := by
  have hl : ds.findIdx p < ds.length := List.findIdx_lt_length.mpr hp
  refine run_forG (fun _ => s0) (ds.findIdx p) hw h0 (Nat.le_of_lt hl) (fun i d hi hd => ?_) (.inr ?_)
  · have hm := List.mem_of_getElem? hd
    refine hs d hm ?_
    have := List.not_of_lt_findIdx hi
    obtain ⟨hl, he⟩ := List.getElem?_eq_some_iff.mp hd
    rw [he] at this
    simpa using this
  · have hp' : p ds[ds.findIdx p] = true := List.findIdx_getElem
    obtain ⟨s2, o', h1, h2, h3, h4⟩ := hr _ (List.getElem_mem hl) hp'
    exact ⟨_, s2, o', List.getElem?_eq_getElem hl, h1, h2, h3, h4⟩
end
end DL
namespace DL
open PySem PySem.Spec PyProof.Rows L2
section
variable {K : PySem.W.Frag} {s s1 s2 : S} {ta tb te : TE} {ns : List Int} {m n : Int}
theorem ev_lenTI (h : Ev K te s (.tuple (ns.map PyData.int)) s1) : Ev K (tCB (rDn K lenOk lenD) (tCons te tNil)) s (.int ns.length) s1 := (ev_lenT (ea_cons h ea_nil)).to (by rw [List.length_map])
theorem ev_lenLI (h : Ev K te s (.list (ns.map PyData.int)) s1) : Ev K (tCB (rDn K lenOk lenD) (tCons te tNil)) s (.int ns.length) s1 := (ev_lenL (ea_cons h ea_nil)).to (by rw [List.length_map])
theorem it_r1 (h : Ev K te s (.int n) s1) (hn : -(2 ^ 62) ≤ n ∧ n < 2 ^ 62) : IterD K (iRng1 (tCons te tNil)) s (upTo 0 n.toNat) s1 := it_rng1 (ea_cons h ea_nil) hn
theorem it_r2 (h : Ev K ta s (.int m) s1) (h2 : Ev K tb s1 (.int n) s2) (hn : -(2 ^ 62) ≤ m ∧ m < 2 ^ 62 ∧ -(2 ^ 62) ≤ n ∧ n < 2 ^ 62) : IterD K (iRng2 (tCons ta (tCons tb tNil))) s (upTo m (n - m).toNat) s2 := it_rng2 (ea_cons h (ea_cons h2 ea_nil)) hn
end
end DL
namespace DL
open PySem PySem.Spec PyProof.Rows L2
section
variable {K : PySem.W.Frag} {E : XK} {s s1 : S} {x1 x2 x3 x4 : Sl} {ta : TA}
theorem Own.growH {H0 H F : Hp} {fp0 fp : Fp} {P : Addr → Prop} {p : Addr} {o : HO} (w : Own H0 fp0 H F fp P) (hp : H p = Option.none) : Own H0 fp0 (upd H p o) F fp P := ⟨w.nf, w.dj, fun b h => (w.th b h).ex (Ex.new hp), w.new⟩
/-- a, b, c, d = .., by a tuple: what is new may be changed later -/
theorem run_tupX4 {i1 i2 i3 i4 : Nat} (h : EvX K ta s [x1, x2, x3, x4] s1) : Run K E (tAsg (tTup ta) (gTup K 4 (gCons (gName i1) (gCons (gName i2) (gCons (gName i3) (gCons (gName i4) gNil)))))) s (.nx ((((s1.set i1 x1).set i2 x2).set i3 x3).set i4 x4)) := fun σ H F fp e Ed q =>
  h σ H F fp e _ fun vs H' F' fp' P e' st l hx ol => by
    match vs, l with
    | [v1, v2, v3, v4], _ =>
      refine ⟨by show 4 ≤ sizeLine; decide, fun p hp => ?_⟩
      have ex := Ex.new (o := .tup [v1, v2, v3, v4]) hp
      have e2 := e'.growH (o := .tup [v1, v2, v3, v4]) hp
      have st2 := st.trans (Step.growH (F := F') (fp := fp') (o := .tup [v1, v2, v3, v4]) hp)
      have ow : ∀ i, Own H fp (upd H' p (.tup [v1, v2, v3, v4])) F' fp' (P i) := fun i => (ol.own i).growH hp
      have up : ∀ {i : Nat} {x : Sl} {sv : Option (Option V)}, SlOk K F' H' (P i) sv x → SlOk K F' (upd H' p (.tup [v1, v2, v3, v4])) (P i) sv x := fun {i x sv} z => z.mono (Ex.refl F') (fun b hb => ((ol.own i).th b hb).get ex) (ExtKeep.of ex)
      have z1 := up (hx 0 x1 rfl)
      have z2 := up (hx 1 x2 rfl)
      have z3 := up (hx 2 x3 rfl)
      have z4 := up (hx 3 x4 rfl)
      have o1 := ow 0
      have o2 := (ow 1).fps (i := .inl i1) (ol.dj 1 0 · (by decide))
      have o3 := ((ow 2).fps (i := .inl i1) (ol.dj 2 0 · (by decide))).fps (i := .inl i2) (ol.dj 2 1 · (by decide))
      have o4 := (((ow 3).fps (i := .inl i1) (ol.dj 3 0 · (by decide))).fps (i := .inl i2) (ol.dj 3 1 · (by decide))).fps (i := .inl i3) (ol.dj 3 2 · (by decide))
      refine ⟨p, [v1, v2, v3, v4], rfl, .inl (.inl upd_same), rfl, v1, _, rfl, v2, _, rfl, v3, _, rfl, v4, _, rfl, rfl, ?_⟩
      exact q _ _ F' _ ((((e2.setX (i := i1) z1 o1).setX (i := i2) z2 o2).setX (i := i3) z3 o3).setX (i := i4) z4 o4) ((((st2.own o1).own o2).own o3).own o4)
end
end DL
namespace DL
open PySem PySem.Spec PyProof.Rows L2
/-! ### xs * n, a new list -/
def rDl2 (K : PySem.W.Frag) (ok : D → D → Prop) (f : D → D → List D) : R2 := fun x y H Q => ∃ F dx dy, Ex F H ∧ AtC K F H x dx ∧ AtC K F H y dy ∧ ok dx dy ∧ ∀ p vs, H p = none → AtAll K F vs (f dx dy) → Q (.ref p) (upd H p (.lst vs))
def repOk : D → D → Prop
  | .list a, .int k => -(2 ^ 63) ≤ k ∧ k < 2 ^ 63 ∧ a.length * k.toNat ≤ sizeLine
  | _, _ => False
def repL : D → D → List D
  | .list a, .int k => (List.replicate k.toNat a).flatten
  | _, _ => []
theorem op_repL {X : Cx} : OpR X (binaryOp .Mult) (rDl2 X.K repOk repL) := by
  intro pins s σ H x y v u Q I rx ry ⟨F, dx, dy, e, hx, hy, ok, k⟩
  match dx, dy, ok with
  | .list a, .int j, ⟨o1, o2, o3⟩ =>
    obtain ⟨p, vs, rfl, h1, h2⟩ := hx.lst e
    have q2 := hy.int
    subst q2
    exact op_rep pins s σ H _ _ v u Q I rx ry ⟨p, j, vs, rfl, rfl, h1, o1, o2, by rw [h2.length]; exact o3, fun r hr => k r _ hr (h2.flat _)⟩
section
variable {K : PySem.W.Frag} {s s1 s2 : S} {ta tb : TE} {x y : D} {ok : D → D → Prop} {f : D → D → List D}
theorem eo_op2 (ha : Ev K ta s x s1) (hb : Ev K tb s1 y s2) (h : ok x y) : EvO K (tOp (rDl2 K ok f) ta tb) s (lstR K none (f x y)) s2 := fun σ H F fp E Q q =>
  ha σ H F fp E _ fun vx H1 F1 fp1 E1 st1 a1 => hb σ H1 F1 fp1 E1 _ fun vy H2 F2 fp2 E2 st2 a2 =>
    ⟨F2, x, y, E2.ex, .inl (a1.ex st2.ex), .inl a2, h, fun p vs hp av => q _ _ F2 fp2 (fun b => b = p) (E2.growH hp) ((st1.trans st2).trans (Step.growH hp)) ⟨p, vs, rfl, (fun _ z => nomatch z), fun _ => Iff.rfl, upd_same, av⟩ (Own.laid E2 (st1.trans st2) hp)⟩
theorem ev_op2L (ha : Ev K ta s x s1) (hb : Ev K tb s1 y s2) (h : ok x y) : Ev K (tOp (rDl2 K ok f) ta tb) s (.list (f x y)) s2 := fun σ H F fp E Q q =>
  ha σ H F fp E _ fun vx H1 F1 fp1 E1 st1 a1 => hb σ H1 F1 fp1 E1 _ fun vy H2 F2 fp2 E2 st2 a2 =>
    ⟨F2, x, y, E2.ex, .inl (a1.ex st2.ex), .inl a2, h, fun p vs hp av => by
      have g : Grow F2 H2 (upd F2 p (.lst vs)) (upd H2 p (.lst vs)) := Grow.laid E2.ex hp
      exact q _ _ _ fp2 (E2.grow g) ((st1.trans st2).trans (E2.growS g)) (.lst upd_same (av.ex g.f))⟩
theorem eo_rep0 {n : Int} {z : D} (hb : Ev K tb s (.int n) s1) (hz : Ev K ta s z s) (h0 : 0 ≤ n) (h1 : n ≤ 1000000) : EvO K (tOp (rDl2 K repOk repL) (tLst (tCons ta tNil)) tb) s (lstR K none (List.replicate n.toNat z)) s1 := by
  have := eo_op2 (ok := repOk) (f := repL) (ev_lst (ea_cons hz ea_nil) (le_size (by simp))) hb ⟨by omega, by omega, le_size (by simp; omega)⟩
  have e : repL (.list [z]) (.int n) = List.replicate n.toNat z := by
    show (List.replicate n.toNat [z]).flatten = _
    simp
  rw [e] at this
  exact this
end
end DL
namespace DL
open PySem PySem.Spec PyProof.Rows L2
section
variable {K : PySem.W.Frag} {s s1 s2 : S} {ta tb : TE} {b : Bool}
/-- a and b, a true, b in its own state -/
theorem ev_andT (h1 : Ev K ta s (.bool true) s1) (h2 : Ev K tb s1 (.bool b) s2) : Ev K (tAndV ta tb) s (.bool b) s2 := fun σ H F fp E Q q =>
  h1 σ H F fp E _ fun v H1 F1 fp1 E1 st1 a1 => by
    cases a1
    refine ⟨true, rfl, ?_⟩
    show tb σ H1 Q
    exact h2 σ H1 F1 fp1 E1 Q fun v H2 F2 fp2 E2 st2 a2 => q v H2 F2 fp2 E2 (st1.trans st2) a2
end
end DL

/-! owned things at one address; dicts -/
namespace DL
open PySem PySem.Spec PyProof.Rows L2
def NoExt (o : HO) : Prop := ∀ φ, o ≠ .ext φ
/-- what an object is, leaning on the frozen part -/
structure Cell where
  c : Hp → HO → Prop
  mono : ∀ {F F' : Hp} {o : HO}, Ex F F' → c F o → c F' o
  nt : ∀ {F : Hp} {o : HO}, c F o → NoTbl o ∧ NoExt o
def cellR (ov : Option V) (x : Cell) : Rs where
  ok := fun F H P sv => ∃ a o, sv = some (some (.ref a)) ∧ (∀ v, ov = some v → v = .ref a) ∧ (∀ b, P b ↔ b = a) ∧ H a = some o ∧ x.c F o
  mono := fun ⟨a, o, h1, h2, h3, h4, h5⟩ e k _ => ⟨a, o, h1, h2, h3, by rw [k a ((h3 a).mpr rfl)]; exact h4, x.mono e h5⟩
theorem pin_cell {v : V} {x : Cell} : Pin (cellR (some v) x) v := fun ⟨a, o, h1, h2, h3, h4, h5⟩ => by
  have := h2 v rfl
  subst this
  exact ⟨a, o, rfl, h2, h3, h4, h5⟩
section
variable {K : PySem.W.Frag} {E : XK} {s s1 s2 s3 s' : S} {te ta tb ti : TE} {t : TS} {d x y : D} {o : Out} {σ : L2.St} {H F : Hp} {fp : Fp}
theorem EnvW.cell {i : Nat} {ov : Option V} {x : Cell} (E : EnvW K σ s H F fp) (h : s.s[i]? = some (.res (cellR ov x))) : ∃ a o, σ[i]? = some (some (.ref a)) ∧ (∀ b, fp (.inl i) b ↔ b = a) ∧ H a = some o ∧ x.c F o := by
  obtain ⟨a, o, h1, _, h3, h4, h5⟩ := E.sl i _ h
  exact ⟨a, o, h1, h3, h4, h5⟩
theorem mut_extO {p : Addr} {o u : HO} (h : H p = some u) (n : NoExt u) : ExtKeep H (upd H p o) := fun b φ q => by
  rw [upd_ne fun z => by rw [z, h] at q; cases q; exact n φ rfl]; exact q
theorem tabs_mutO {T : List (Addr × Str)} {p : Addr} {o u : HO} (t : LamX.Tabs T H) (h : H p = some u) (n : NoTbl u) (n2 : NoExt u) : LamX.Tabs T (upd H p o) := fun x hx => by
  obtain ⟨ps, h1, h2, h3⟩ := t x hx
  refine ⟨ps, by rw [upd_ne fun z => by rw [z, h] at h1; cases h1; exact n ps rfl]; exact h1, h2, fun pos cv hc => ?_⟩
  obtain ⟨c, e1, e2⟩ := h3 pos cv hc
  exact ⟨c, e1, mut_extO h n2 _ _ e2⟩
theorem EnvW.putC {i : Nat} {ov : Option V} {x x' : Cell} {a : Addr} {o' : HO} (E : EnvW K σ s H F fp) (hi : s.s[i]? = some (.res (cellR ov x))) (hσ : σ[i]? = some (some (.ref a))) (hv : x'.c F o') :
    EnvW K σ (s.set i (.res (cellR ov x'))) (upd H a o') F fp ∧ Step H F fp (upd H a o') F fp := by
  obtain ⟨a', o, h1, h2, h3, h4, h5⟩ := E.sl i _ hi
  rw [hσ] at h1
  cases h1
  obtain ⟨n1, n2⟩ := x.nt h5
  have hfa : fp (.inl i) a := (h3 a).mpr rfl
  have hil : i < s.s.length := (List.getElem?_eq_some_iff.mp hi).1
  refine ⟨⟨fun b u q => ?_, by simp [S.set, E.len], fun j y hj => ?_, tabs_mutO E.tb h4 n1 n2, E.dj, E.nf, fun j b h => ?_, E.nt⟩, ⟨Ex.refl F, fun _ h _ _ => h, fun b o h1 _ h2 => ?_, fun j b h => .inl ⟨j, h⟩, mut_extO h4 n2⟩⟩
  · rw [upd_ne (ne_of_none q (E.nf _ a hfa))]; exact E.ex b u q
  · by_cases z : j = i
    · subst z
      have e1 : (s.s.set j (.res (cellR ov x')))[j]? = some (.res (cellR ov x')) := List.getElem?_set_self hil
      rw [show (s.set j (.res (cellR ov x'))).s = s.s.set j (.res (cellR ov x')) from rfl, e1] at hj
      cases hj
      exact ⟨a, o', hσ, h2, h3, upd_same, hv⟩
    · have e1 : (s.s.set i (.res (cellR ov x')))[j]? = s.s[j]? := List.getElem?_set_ne (Ne.symm z)
      rw [show (s.set i (.res (cellR ov x'))).s = s.s.set i (.res (cellR ov x')) from rfl, e1] at hj
      exact (E.sl j y hj).mono (Ex.refl F) (fun b hb => upd_ne fun q => E.dj (.inl j) (.inl i) b (by intro w; cases w; exact z rfl) hb (q ▸ hfa)) (mut_extO h4 n2)
  · by_cases z : b = a
    · subst z; exact ⟨_, upd_same, (x'.nt hv).1⟩
    · obtain ⟨o, q, n⟩ := E.th j b h; exact ⟨o, by rw [upd_ne z]; exact q, n⟩
  · have : b ≠ a := fun q => h2 (.inl i) (q ▸ hfa)
    rw [upd_ne this]; exact h1
/-- a new owned thing -/
theorem cell_new {H0 F0 : Hp} {fp0 : Fp} {x : Cell} {p : Addr} {o : HO} {Q : VK} {r : Rs} (hr : r = cellR none x) (e : EnvW K σ s H F fp) (st : Step H0 F0 fp0 H F fp) (hp : H p = none) (hc : x.c F o)
    (q : ∀ v H' F' fp' P, EnvW K σ s H' F' fp' → Step H0 F0 fp0 H' F' fp' → r.ok F' H' P (some (some v)) → Own H0 fp0 H' F' fp' P → Q v H') : Q (.ref p) (upd H p o) := by
  subst hr
  exact q _ _ F fp (fun b => b = p) (e.growH hp) (st.trans (Step.growH hp)) ⟨p, o, rfl, (fun _ z => nomatch z), fun _ => Iff.rfl, upd_same, hc⟩ (Own.laid (K := K) e st hp (x.nt hc).1)
/-- it is given up: from now on it is data -/
theorem EnvW.freezeC {i : Nat} {ov : Option V} {x : Cell} {d : D} (e : EnvW K σ s H F fp) (hi : s.s[i]? = some (.res (cellR ov x))) (hd : ∀ {F : Hp} {a : Addr} {o : HO}, x.c F o → F a = some o → At K F (.ref a) d) : ∃ F', EnvW K σ (s.set i (.dat d)) H F' (fpSet fp (.inl i) noP) ∧ Step H F fp H F' (fpSet fp (.inl i) noP) := by
  obtain ⟨a, o, h1, h2, h3, h4⟩ := e.cell hi
  obtain ⟨n1, n2⟩ := x.nt h4
  have hfa : fp (.inl i) a := (h2 a).mpr rfl
  have hFa : F a = none := e.nf _ a hfa
  have eF : Ex F (upd F a o) := Ex.new hFa
  have hil : i < s.s.length := (List.getElem?_eq_some_iff.mp hi).1
  have nfa : ∀ j b, j ≠ .inl i → fp j b → b ≠ a := fun j b hj hb z => e.dj j (.inl i) b hj hb (z ▸ hfa)
  refine ⟨upd F a o, ⟨fun b u q => ?_, by simp [S.set, e.len], fun j y hj => ?_, e.tb, fun j k b hjk h1 h2 => ?_, fun j b hb => ?_, fun j b hb => ?_, fun b o q => ?_⟩, ⟨eF, fun b h1 h2 h3 => ?_, fun b o h1 _ _ => h1, fun j b hb => ?_, fun _ _ h => h⟩⟩
  · by_cases z : b = a
    · subst z; rw [upd_same] at q; cases q; exact h3
    · rw [upd_ne z] at q; exact e.ex b u q
  · by_cases z : j = i
    · subst z
      have e1 : (s.s.set j (.dat d))[j]? = some (.dat d) := List.getElem?_set_self hil
      rw [show (s.set j (.dat d)).s = s.s.set j (.dat d) from rfl, e1] at hj
      cases hj
      exact ⟨.ref a, h1, hd (x.mono eF h4) upd_same⟩
    · have e1 : (s.s.set i (.dat d))[j]? = s.s[j]? := List.getElem?_set_ne (Ne.symm z)
      rw [show (s.set i (.dat d)).s = s.s.set i (.dat d) from rfl, e1] at hj
      rw [fpSet_ne (by intro q; cases q; exact z rfl)]
      exact (e.sl j y hj).mono eF (fun _ _ => rfl) (fun _ _ h => h)
  · by_cases z : j = .inl i
    · subst z; rw [fpSet_same] at h1; exact h1
    · rw [fpSet_ne z] at h1
      by_cases y : k = .inl i
      · subst y; rw [fpSet_same] at h2; exact h2
      · rw [fpSet_ne y] at h2; exact e.dj j k b hjk h1 h2
  · by_cases z : j = .inl i
    · subst z; rw [fpSet_same] at hb; exact hb.elim
    · rw [fpSet_ne z] at hb; rw [upd_ne (nfa j b z hb)]; exact e.nf j b hb
  · by_cases z : j = .inl i
    · subst z; rw [fpSet_same] at hb; exact hb.elim
    · rw [fpSet_ne z] at hb; exact e.th j b hb
  · by_cases z : b = a
    · subst z; rw [upd_same] at q; cases q; exact n1
    · rw [upd_ne z] at q; exact e.nt b o q
  · have : b ≠ a := fun z => h3 (.inl i) (z ▸ hfa)
    rw [upd_ne this]; exact h1
  · by_cases z : j = .inl i
    · subst z; rw [fpSet_same] at hb; exact hb.elim
    · rw [fpSet_ne z] at hb; exact .inl ⟨j, hb⟩
/-! ### dicts whose keys are ints and texts -/
def keyIs (k : Key) : D → Bool
  | .int i => match k with
    | .inl j => decide (i = j)
    | _ => false
  | .str x => match k with
    | .inr y => decide (x = y)
    | _ => false
  | _ => false
theorem keyIs_key {k j : Key} : keyIs k (keyD j) = decide (j = k) := by
  cases j <;> cases k <;> simp [keyIs, keyD]
def dlook : List (D × D) → Key → Option D
  | [], _ => none
  | (a, d) :: r, k => if keyIs k a = true then some d else dlook r k
def dput (ds : List (D × D)) (k : Key) (d : D) : List (D × D) := if (dlook ds k).isSome = true then ds.map (fun p => if keyIs k p.1 = true then (p.1, d) else p) else ds ++ [(keyD k, d)]
theorem AtKV.look {k : Key} : ∀ {kvs : List (Key × V)} {ds : List (D × D)}, AtKV K F kvs ds → (∀ d, dlook ds k = some d → ∃ v, valV kvs k = some v ∧ At K F v d) ∧ (dlook ds k = none → valV kvs k = none)
  | _, _, .nil => ⟨fun d h => (nomatch h), fun _ => rfl⟩
  | _, _, .cons (k := j) (kvs := kvs) h t => by
    obtain ⟨h1, h2⟩ := AtKV.look (k := k) t
    by_cases q : j = k
    · subst q
      refine ⟨fun d hd => ?_, fun hd => ?_⟩
      · unfold dlook at hd
        rw [keyIs_key, if_pos (by simp)] at hd
        cases hd
        exact ⟨_, valV_pos rfl, h⟩
      · unfold dlook at hd
        rw [keyIs_key, if_pos (by simp)] at hd
        cases hd
    · refine ⟨fun d hd => ?_, fun hd => ?_⟩
      · unfold dlook at hd
        rw [keyIs_key, if_neg (by simpa using q)] at hd
        obtain ⟨v, e1, e2⟩ := h1 d hd
        exact ⟨v, by rw [valV_neg q]; exact e1, e2⟩
      · unfold dlook at hd
        rw [keyIs_key, if_neg (by simpa using q)] at hd
        rw [valV_neg q]; exact h2 hd
theorem AtKV.app : ∀ {kvs js : List (Key × V)} {ds es : List (D × D)}, AtKV K F kvs ds → AtKV K F js es → AtKV K F (kvs ++ js) (ds ++ es)
  | _, _, _, _, .nil, s => s
  | _, _, _, _, .cons h t, s => .cons h (AtKV.app t s)
theorem AtKV.upd {k : Key} {v : V} {d : D} (h : At K F v d) : ∀ {kvs : List (Key × V)} {ds : List (D × D)}, AtKV K F kvs ds → AtKV K F (kvs.map fun kv => if kv.1 = k then (kv.1, v) else kv) (ds.map fun p => if keyIs k p.1 = true then (p.1, d) else p)
  | _, _, .nil => .nil
  | _, _, .cons (k := j) g t => by
    simp only [List.map_cons]
    rw [keyIs_key]
    by_cases q : j = k
    · subst q
      simp only [if_pos, decide_true]
      exact .cons h (AtKV.upd h t)
    · simp only [q, if_false, decide_false, Bool.false_eq_true]
      exact .cons g (AtKV.upd h t)
theorem AtKV.put {k : Key} {v : V} {d : D} (h : At K F v d) {kvs : List (Key × V)} {ds : List (D × D)} (t : AtKV K F kvs ds) : AtKV K F (putK kvs k v) (dput ds k d) := by
  obtain ⟨h1, h2⟩ := t.look (k := k)
  unfold putK dput
  rw [valV_any]
  cases q : dlook ds k with
  | none =>
    rw [h2 q]
    exact t.app (.cons h .nil)
  | some e =>
    obtain ⟨w, e1, _⟩ := h1 e q
    rw [e1]
    exact t.upd h
theorem AtKV.len : ∀ {kvs : List (Key × V)} {ds : List (D × D)}, AtKV K F kvs ds → kvs.length = ds.length
  | _, _, .nil => rfl
  | _, _, .cons _ t => by simp [AtKV.len t]
def dctC (K : PySem.W.Frag) (ds : List (D × D)) : Cell where
  c := fun F o => ∃ kvs, o = .dK kvs ∧ AtKV K F kvs ds
  mono := fun e ⟨kvs, h1, h2⟩ => ⟨kvs, h1, h2.ex e⟩
  nt := fun ⟨kvs, h1, _⟩ => by subst h1; exact ⟨(fun _ z => by cases z), (fun _ z => by cases z)⟩
abbrev dctR (K : PySem.W.Frag) (ov : Option V) (ds : List (D × D)) : Rs := cellR ov (dctC K ds)
/-- {k: v, ..} -/
inductive AtPs (K : PySem.W.Frag) (F : Hp) : List (V × V) → List (Key × D) → Prop
  | nil : AtPs K F [] []
  | cons {k : Key} {v : V} {vs : List (V × V)} {d : D} {ds : List (Key × D)} : At K F v d → AtPs K F vs ds → AtPs K F ((kV k, v) :: vs) ((k, d) :: ds)
def EvPs (K : PySem.W.Frag) (trs : List (TE × TE)) (s : S) (ps : List (Key × D)) (s' : S) : Prop := ∀ σ H F fp, EnvW K σ s H F fp → ∀ Q : List (V × V) → Hp → Prop, (∀ vs H' F' fp', EnvW K σ s' H' F' fp' → Step H F fp H' F' fp' → AtPs K F' vs ps → Q vs H') → tPairs trs σ H Q
theorem ep_nil : EvPs K [] s [] s := fun σ H F fp e Q q => q _ H F fp e (Step.refl _ _ _) .nil
theorem at_key {k : Key} {v : V} (h : At K F v (keyD k)) : v = kV k := by
  cases k with
  | inl i => cases h; rfl
  | inr x => cases h; rfl
theorem ep_cons {k : Key} {trs : List (TE × TE)} {ps : List (Key × D)} (h1 : Ev K ta s (keyD k) s1) (h2 : Ev K tb s1 d s2) (hr : EvPs K trs s2 ps s3) : EvPs K ((ta, tb) :: trs) s ((k, d) :: ps) s3 := fun σ H F fp e Q q =>
  h1 σ H F fp e _ fun v H1 F1 fp1 e1 st1 a1 => h2 σ H1 F1 fp1 e1 _ fun w H2 F2 fp2 e2 st2 a2 => hr σ H2 F2 fp2 e2 _ fun vs H3 F3 fp3 e3 st3 a3 => by
    rw [at_key a1]
    exact q _ H3 F3 fp3 e3 ((st1.trans st2).trans st3) (.cons (a2.ex st3.ex) a3)
def dmerge (ds : List (D × D)) (ps : List (Key × D)) : List (D × D) := ps.foldl (fun acc p => dput acc p.1 p.2) ds
theorem AtPs.un : ∀ {vs : List (V × V)} {ps : List (Key × D)}, AtPs K F vs ps → ∃ kvs : List (Key × V), vs = kvs.map (fun kv => (kV kv.1, kv.2)) ∧ kvs.length = ps.length ∧ ∀ {js : List (Key × V)} {ds : List (D × D)}, AtKV K F js ds → AtKV K F (mergeK js kvs) (dmerge ds ps)
  | _, _, .nil => ⟨[], rfl, rfl, fun h => h⟩
  | _, _, .cons (k := k) (v := v) h t => by
    obtain ⟨kvs, h1, h2, h3⟩ := t.un
    refine ⟨(k, v) :: kvs, by rw [h1]; rfl, by simp [h2], fun q => ?_⟩
    exact h3 (q.put h)
theorem eo_disp {trs : List (TE × TE)} {ps : List (Key × D)} (h : EvPs K trs s ps s1) (hl : ps.length ≤ 15) : EvO K (tDisp trs) s (dctR K none (dmerge [] ps)) s1 := fun σ H F fp e Q q p hp => by
  have e0 := e.growH (o := .dK []) hp
  have st0 : Step H F fp (upd H p (.dK [])) F fp := Step.growH hp
  refine h σ _ F fp e0 _ fun vs H1 F1 fp1 e1 st1 a1 => ?_
  have hpF : F p = none := e.ex.un hp
  have hfp : ∀ i, ¬ fp i p := fun i hi => (e.th i p hi).ne hp rfl
  have lv : Live (upd H p (.dK [])) p := ⟨_, upd_same, by intro ps z; cases z⟩
  have hp1 : H1 p = some (.dK []) := st1.keep p _ upd_same (by intro ps z; cases z) hfp
  have hF1 : F1 p = none := st1.new p hpF lv hfp
  have nf1 : ∀ i, ¬ fp1 i p := fun i hi => by
    rcases st1.fpn i p hi with ⟨j, hj⟩ | z
    · exact hfp j hj
    · exact z lv
  obtain ⟨kvs, k1, k2, k3⟩ := a1.un
  refine ⟨hp1, kvs, k1, by omega, ?_⟩
  have e2 : EnvW K σ s1 (upd H1 p (.dK (mergeK [] kvs))) F1 fp1 := by
    refine ⟨fun b u z => ?_, e1.len, fun i x hx => ?_, tabs_mutO e1.tb hp1 (by intro ps z; cases z) (by intro ps z; cases z), e1.dj, e1.nf, fun i b hb => ?_, e1.nt⟩
    · rw [upd_ne (ne_of_none z hF1)]; exact e1.ex b u z
    · exact (e1.sl i x hx).mono (Ex.refl F1) (fun b hb => upd_ne fun z => nf1 _ (z ▸ hb)) (mut_extO hp1 (by intro ps z; cases z))
    · obtain ⟨o, w, n⟩ := e1.th i b hb
      exact ⟨o, by rw [upd_ne fun z => by subst z; exact nf1 _ hb]; exact w, n⟩
  have st2 : Step H F fp (upd H1 p (.dK (mergeK [] kvs))) F1 fp1 := by
    have st := st0.trans st1
    refine ⟨st.ex, st.new, fun b u h1 h2 h3 => ?_, st.fpn, fun b φ h1 => ?_⟩
    · rw [upd_ne (ne_of_none h1 hp)]; exact st.keep b u h1 h2 h3
    · rw [upd_ne (ne_of_none h1 hp)]; exact st.ext b φ h1
  refine q _ _ F1 fp1 (fun b => b = p) e2 st2 ⟨p, _, rfl, (fun _ z => nomatch z), fun _ => Iff.rfl, upd_same, _, rfl, k3 .nil⟩ ⟨fun b hb => by subst hb; exact hF1, fun b i hb hi => by subst hb; exact nf1 i hi, fun b hb => by subst hb; exact ⟨_, upd_same, by intro ps z; cases z⟩, fun b hb => ?_⟩
  subst hb
  exact .inr fun l => l.ne hp rfl
theorem ev_dispD {trs : List (TE × TE)} {ps : List (Key × D)} (h : EvPs K trs s ps s1) (hl : ps.length ≤ 15) : EvO K (tDisp trs) s (dctR K none (dmerge [] ps)) s1 := eo_disp h hl
/-- d[k], d data -/
theorem ev_dget {ds : List (D × D)} {k : Key} (ha : Ev K ta s (.dict ds) s1) (hb : Ev K tb s1 (keyD k) s2) (h : dlook ds k = some d) : Ev K (tDGet ta tb) s d s2 := fun σ H F fp e Q q =>
  ha σ H F fp e _ fun v H1 F1 fp1 e1 st1 a1 => hb σ H1 F1 fp1 e1 _ fun w H2 F2 fp2 e2 st2 a2 => by
    rw [at_key a2]
    cases a1 with
    | dic h1 h2 =>
      obtain ⟨u, w1, w2⟩ := h2.look.1 d h
      exact ⟨_, u, rfl, .inl ⟨_, k, .inl (e2.ex _ _ (st2.ex _ _ h1)), rfl, w1.symm⟩, q u H2 F2 fp2 e2 (st1.trans st2) (w2.ex st2.ex)⟩
    | scr h1 => cases k <;> cases h
/-- d[k], d owned -/
theorem ev_dgetO {i : Nat} {ov ov' : Option V} {ds ds' : List (D × D)} {k : Key} (hi : s.s[i]? = some (.res (dctR K ov ds))) (hb : Ev K tb s (keyD k) s2) (hi2 : s2.s[i]? = some (.res (dctR K ov' ds'))) (h : dlook ds' k = some d) : Ev K (tDGet (tVar i) tb) s d s2 := fun σ H F fp e Q q => by
  obtain ⟨a, o, h1, _, _, _⟩ := e.cell hi
  refine ⟨.ref a, h1, hb σ H F fp e _ fun w H2 F2 fp2 e2 st2 a2 => ?_⟩
  rw [at_key a2]
  obtain ⟨a', o', h1', _, h4, kvs, h5, h6⟩ := e2.cell hi2
  rw [h1] at h1'
  cases h1'
  subst h5
  obtain ⟨u, w1, w2⟩ := h6.look.1 d h
  exact ⟨_, u, rfl, .inl ⟨_, k, .inl h4, rfl, w1.symm⟩, q u H2 F2 fp2 e2 st2 w2⟩
/-- d[k] = e -/
theorem run_putD {i : Nat} {ov ov' : Option V} {ds ds' : List (D × D)} {k : Key} (h : Ev K te s d s1) (hi : s1.s[i]? = some (.res (dctR K ov ds))) (hk : Ev K ti s1 (keyD k) s2) (hi2 : s2.s[i]? = some (.res (dctR K ov' ds'))) (hz : ds'.length < sizeLine) :
    Run K E (tAsg te (gSub (tVar i) ti rSetD)) s (.nx (s2.set i (.res (dctR K ov' (dput ds' k d))))) := fun σ H F fp e Ed q =>
  h σ H F fp e _ fun v H1 F1 fp1 e1 st1 a1 => by
    obtain ⟨a, o, h1, _⟩ := e1.cell hi
    refine ⟨.ref a, h1, hk σ H1 F1 fp1 e1 _ fun w H2 F2 fp2 e2 st2 a2 => ?_⟩
    rw [at_key a2]
    obtain ⟨a', o', h1', _, h4, kvs, h5, h6⟩ := e2.cell hi2
    rw [h1] at h1'
    cases h1'
    subst h5
    refine ⟨a, _, rfl, .inl ⟨kvs, k, h4, rfl, by rw [h6.len]; exact hz, rfl⟩, ?_⟩
    obtain ⟨e3, st3⟩ := e2.putC (x' := dctC K (dput ds' k d)) hi2 h1 ⟨_, rfl, h6.put (a1.ex st2.ex)⟩
    exact q σ _ F2 fp2 e3 ((st1.trans st2).trans st3)
theorem run_frzD {i : Nat} {ov : Option V} {ds : List (D × D)} (hi : s.s[i]? = some (.res (dctR K ov ds))) (h : Run K E t (s.set i (.dat (.dict ds))) o) : Run K E t s o := fun σ H F fp e Ed q => by
  obtain ⟨F', e', st⟩ := e.freezeC (d := .dict ds) hi fun {F a o} ⟨kvs, h1, h2⟩ hF => by subst h1; exact .dic hF h2
  exact h σ H F' _ e' Ed (q.step st)
/-- a new thing that nobody changes is data -/
theorem ev_ofO {x : Cell} (h : EvO K te s (cellR none x) s1) (hd : ∀ {F : Hp} {a : Addr} {o : HO}, x.c F o → F a = some o → At K F (.ref a) d) : Ev K te s d s1 := fun σ H F fp e Q q =>
  h σ H F fp e _ fun v H1 F1 fp1 P e1 st1 r w => by
    obtain ⟨a, o, h1, h2, h3, h4, h5⟩ := r
    cases h1
    obtain ⟨n1, n2⟩ := x.nt h5
    have pa : P a := (h3 a).mpr rfl
    have hFa : F1 a = none := w.nf a pa
    have eF : Ex F1 (upd F1 a o) := Ex.new hFa
    have nfa : ∀ i, ¬ fp1 i a := fun i hi => w.dj a i pa hi
    refine q (.ref a) H1 (upd F1 a o) fp1 ⟨fun b u z => ?_, e1.len, fun i y hy => ?_, e1.tb, e1.dj, fun i b hb => ?_, e1.th, fun b u z => ?_⟩ ⟨st1.ex.trans eF, fun b g1 g2 g3 => ?_, st1.keep, st1.fpn, st1.ext⟩ (hd (x.mono eF h5) upd_same)
    · by_cases c : b = a
      · subst c; rw [upd_same] at z; cases z; exact h4
      · rw [upd_ne c] at z; exact e1.ex b u z
    · exact (e1.sl i y hy).mono eF (fun _ _ => rfl) (fun _ _ h => h)
    · rw [upd_ne fun c => by subst c; exact nfa _ hb]; exact e1.nf i b hb
    · by_cases c : b = a
      · subst c; rw [upd_same] at z; cases z; exact n1
      · rw [upd_ne c] at z; exact e1.nt b u z
    · have : b ≠ a := fun c => by
        subst c
        rcases w.new b pa with ⟨j, hj⟩ | qq
        · exact g3 j hj
        · exact qq g2
      rw [upd_ne this]; exact st1.new b g1 g2 g3
theorem ev_dictO {ds : List (D × D)} (h : EvO K te s (dctR K none ds) s1) : Ev K te s (.dict ds) s1 := ev_ofO h fun {F a o} ⟨kvs, h1, h2⟩ hF => by subst h1; exact .dic hF h2
end
end DL

namespace DL
open PySem PySem.Spec PyProof.Rows L2
section
variable {K : PySem.W.Frag} {E : XK} {s s1 s2 s3 s' : S} {te ta tb tc ti : TE} {t : TS} {d x y : D} {o : Out} {σ : L2.St} {H F : Hp} {fp : Fp}
/-- the ints lo, lo + c, .. -/
def upBy (lo c : Int) (n : Nat) : List D := (List.range n).map fun i => .int (lo + (i : Nat) * c)
theorem upBy_get {lo c : Int} {n i : Nat} {d : D} (h : (upBy lo c n)[i]? = some d) : i < n ∧ d = .int (lo + (i : Nat) * c) := by
  unfold upBy at h
  rw [List.getElem?_map] at h
  obtain ⟨j, h1, h2⟩ := Option.map_eq_some_iff.mp h
  obtain ⟨h3, h4⟩ := List.getElem?_eq_some_iff.mp h1
  rw [List.getElem_range] at h4
  subst h4
  exact ⟨by simpa using h3, h2.symm⟩
theorem upBy_len {lo c : Int} {n : Nat} : (upBy lo c n).length = n := by simp [upBy]
theorem isIt_rngC {F : Hp} {lo c : Int} {n : Nat} : IsIt K (Itc lo c n) F (upBy lo c n) := fun F' H' i hF hH => ⟨fun d hd => by
  obtain ⟨h1, rfl⟩ := upBy_get hd
  refine ⟨h1, fun x H2 hy => ?_⟩
  obtain ⟨rfl, rfl⟩ := hy
  exact ⟨F', Grow.refl hH, .int _⟩, fun h => by rw [upBy_len] at h; exact Nat.le_of_eq h.symm⟩
theorem it_rng3 {i j c : Int} {n : Nat} (h1 : Ev K ta s (.int i) s1) (h2 : Ev K tb s1 (.int j) s2) (h3 : Ev K tc s2 (.int c) s3) (hr : RgC i j c n) : IterD K (iRng3 (tCons ta (tCons tb (tCons tc tNil)))) s (upBy i c n) s3 := fun σ H F fp e R r =>
  ea_cons h1 (ea_cons h2 (ea_cons h3 ea_nil)) σ H F fp e _ fun vs H1 F1 fp1 e1 st1 a1 => by
    cases a1 with
    | cons x y => cases x; cases y with
      | cons x y => cases x; cases y with
        | cons x y => cases x; cases y; exact ⟨i, j, c, n, rfl, hr, r _ H1 F1 fp1 e1 st1 isIt_rngC⟩
/-- a step up that meets the end -/
theorem rgC_up {i c : Int} {n : Nat} (hc : 0 < c) (hc2 : c < 1000000) (h0 : -1000000000 ≤ i) (h1 : i ≤ 1000000000) (hn : (n : Int) * c ≤ 1000000000) : RgC i (i + n * c) c n := by
  have hnn : 0 ≤ (n : Int) * c := Int.mul_nonneg (by omega) (by omega)
  have hs : Builtin.Range.rangeSize i (i + n * c) c = n := by
    unfold Builtin.Range.rangeSize
    rw [if_pos hc]
    by_cases z : n = 0
    · subst z
      rw [if_neg (by simp)]; rfl
    · have h2 : c ≤ (n : Int) * c := by
        have : (1 : Int) * c ≤ (n : Int) * c := Int.mul_le_mul_of_nonneg_right (by omega) (by omega)
        omega
      rw [if_pos (by omega)]
      have e : (i + (n : Int) * c - i - 1) = (c - 1) + ((n : Int) - 1) * c := by rw [Int.sub_mul]; omega
      rw [e, Int.add_mul_ediv_right _ _ (by omega), Int.ediv_eq_zero_of_lt (by omega) (by omega)]
      omega
  have hn3 : (n : Int) ≤ 1000000000 := by
    have : (n : Int) * 1 ≤ (n : Int) * c := Int.mul_le_mul_of_nonneg_left (by omega) (by omega)
    omega
  refine ⟨by omega, by omega, ?_, hs⟩
  unfold Builtin.Range.small
  rw [hs]
  simp [Builtin.Range.rangeFitsLong, hc]
  omega
/-- d["k"] -/
theorem ev_dgetS {ds : List (D × D)} {k : Str} (ha : Ev K ta s (.dict ds) s1) (h : dlook ds (.inr k) = some d) : Ev K (tDGet ta (tC (.str k))) s d s1 := ev_dget (k := .inr k) ha ev_str h
theorem run_putDS {i : Nat} {ov : Option V} {ds : List (D × D)} {k : Str} (h : Ev K te s d s1) (hi : s1.s[i]? = some (.res (dctR K ov ds))) (hz : ds.length < sizeLine) :
    Run K E (tAsg te (gSub (tVar i) (tC (.str k)) rSetD)) s (.nx (s1.set i (.res (dctR K ov (dput ds (.inr k) d))))) := run_putD (k := .inr k) h hi ev_str hi hz
theorem ep_consS {k : Str} {trs : List (TE × TE)} {ps : List (Key × D)} (h2 : Ev K tb s d s2) (hr : EvPs K trs s2 ps s3) : EvPs K ((tC (.str k), tb) :: trs) s ((.inr k, d) :: ps) s3 := ep_cons (k := .inr k) ev_str h2 hr
end
end DL

namespace DL
open PySem PySem.Spec PyProof.Rows L2
section
variable {K : PySem.W.Frag} {E : XK} {s s1 s2 s3 s' : S} {te ta tb tc ti : TE} {t u : TS} {tt : TT} {d x y : D} {o : Out} {σ : L2.St} {H F H1 F1 H' F' : Hp} {fp fp1 fpc fpc' : Fp}
/-- f(xs, ..), xs an owned list; what comes is new -/
theorem eo_callL {R : FR} {tr : TA} {ds : List D} {i : Nat} {ov ov' : Option V} {es es1 es2 : List D} {r : Rs} (hi : s.s[i]? = some (.res (lstR K ov es))) (ha : EvA K tr s ds s1) (hi1 : s1.s[i]? = some (.res (lstR K ov' es1)))
    (hR : ∀ v, R ⟨.res (lstR K (some v) es1) :: ds.map .dat, s1.g⟩ (.ro r ⟨.res (lstR K (some v) es2) :: ds.map .dat, s1.g⟩)) : EvO K (tCall (spF K R) [] E (tCons (tVar i) tr)) s r (s1.set i (.res (lstR K ov' es2))) := fun σ H F fp e Q q => by
  refine callL e hi ha hi1 hR fun a vs H1 F1 fp1 e1 st1 hσ hov => ?_
  have hfa : fp1 (.inl i) a := by
    obtain ⟨a', _, h1, h2, _⟩ := e1.own hi1
    rw [hσ] at h1; cases h1
    exact (h2 a).mpr rfl
  refine ⟨fun v H' F' fp' P e' st av w => ?_, hfa⟩
  obtain ⟨fp2, e2, st2, hfp⟩ := frameL e1 hi1 hσ hov hfa e' st
  refine q v H' F' fp2 P e2 (st1.trans st2) av ⟨w.nf, fun b j hb hj => ?_, w.th, fun b hb => ?_⟩
  · rcases hfp j b hj with h | h
    · rcases w.new b hb with ⟨k, hk⟩ | h2
      · obtain ⟨a', vs', z1, z2, z3, _⟩ := e'.sl 0 _ rfl
        have ea : a' = a := by have := z2 (.ref a) rfl; cases this; rfl
        subst ea
        rw [hk.2] at hb
        exact w.dj _ (.inl 0) hb ((z3 _).mpr rfl)
      · exact h2 (e1.th j b h)
    · exact w.dj b (.inl 0) hb h
  · rcases w.new b hb with ⟨k, hk⟩ | h2
    · obtain ⟨a', vs', z1, z2, z3, _⟩ := e'.sl 0 _ rfl
      have ea : a' = a := by have := z2 (.ref a) rfl; cases this; rfl
      subst ea
      rw [hk.2] at hb
      exact absurd ((z3 _).mpr rfl) (w.dj _ (.inl 0) hb)
    · by_cases z : ∃ j, fp j b
      · exact .inl z
      · exact .inr fun l => h2 (st1.live l fun i hi => z ⟨i, hi⟩)
/-- x = y, y an owned thing that moves -/
theorem run_mov {i j : Nat} {r : Rs} (hi : s.s[j]? = some (.res r)) (hp : ∀ {F H : Hp} {P : Addr → Prop} {sv : Option (Option V)}, r.ok F H P sv → ∃ v, sv = some (some v)) (hij : i ≠ j) : Run K E (tAsg (tVar j) (gName i)) s (.nx ((s.set j .unk).set i (.res r))) := fun σ H F fp e Ed q => by
  have h := e.sl j _ hi
  obtain ⟨v, hv⟩ := hp h
  have hjl : j < s.s.length := (List.getElem?_eq_some_iff.mp hi).1
  -- slot j forgotten
  have e1 : EnvW K σ (s.set j .unk) H F (fpSet fp (.inl j) noP) := by
    refine ⟨e.ex, by simp [S.set, e.len], fun k y hk => ?_, e.tb, fun a b c hab h1 h2 => ?_, fun a b h1 => ?_, fun a b h1 => ?_, e.nt⟩
    · by_cases z : k = j
      · subst z
        have e1 : (s.s.set k .unk)[k]? = some .unk := List.getElem?_set_self hjl
        rw [show (s.set k .unk).s = s.s.set k .unk from rfl, e1] at hk
        cases hk; trivial
      · have e1 : (s.s.set j .unk)[k]? = s.s[k]? := List.getElem?_set_ne (Ne.symm z)
        rw [show (s.set j .unk).s = s.s.set j .unk from rfl, e1] at hk
        rw [fpSet_ne (by intro q; cases q; exact z rfl)]
        exact e.sl k y hk
    · by_cases z : a = .inl j
      · subst z; rw [fpSet_same] at h1; exact h1
      · rw [fpSet_ne z] at h1
        by_cases y : b = .inl j
        · subst y; rw [fpSet_same] at h2; exact h2
        · rw [fpSet_ne y] at h2; exact e.dj a b c hab h1 h2
    · by_cases z : a = .inl j
      · subst z; rw [fpSet_same] at h1; exact h1.elim
      · rw [fpSet_ne z] at h1; exact e.nf a b h1
    · by_cases z : a = .inl j
      · subst z; rw [fpSet_same] at h1; exact h1.elim
      · rw [fpSet_ne z] at h1; exact e.th a b h1
  have w : Own H fp H F (fpSet fp (.inl j) noP) (fp (.inl j)) := by
    refine ⟨fun b hb => e.nf _ b hb, fun b k hb hk => ?_, fun b hb => e.th _ b hb, fun b hb => .inl ⟨_, hb⟩⟩
    by_cases z : k = .inl j
    · subst z; rw [fpSet_same] at hk; exact hk
    · rw [fpSet_ne z] at hk; exact e.dj k (.inl j) b z hk hb
  refine ⟨v, hv, q _ H F _ (e1.setO (by rw [← hv]; exact h) w) (Step.drop.own w)⟩
/-- two owned lists compared -/
theorem ev_opOO {ok : D → D → Prop} {f : D → D → D} {i j : Nat} {ov ov' : Option V} {ds ds' : List D} (hi : s.s[i]? = some (.res (lstR K ov ds))) (hj : s.s[j]? = some (.res (lstR K ov' ds'))) (h : ok (.list ds) (.list ds')) : Ev K (tOp (rD2 K ok f) (tVar i) (tVar j)) s (f (.list ds) (.list ds')) s := fun σ H F fp E Q q => by
  obtain ⟨a, vs, h1, _, h4, h5⟩ := E.own hi
  obtain ⟨a', vs', h1', _, h4', h5'⟩ := E.own hj
  exact ⟨.ref a, h1, .ref a', h1', F, .list ds, .list ds', E.ex, .inr ⟨_, _, _, rfl, rfl, h4, h5⟩, .inr ⟨_, _, _, rfl, rfl, h4', h5'⟩, h, fun v H' F' g a => q v H' F' fp (E.grow g) (E.growS g) a⟩
/-- a new list out of an owned one -/
theorem eo_cl1 {ok : List D → Prop} {f : List D → List D} {i : Nat} {ov : Option V} {ds : List D} (hi : s.s[i]? = some (.res (lstR K ov ds))) (h : ok [.list ds]) : EvO K (tCB (rDl K ok f) (tCons (tVar i) tNil)) s (lstR K none (f [.list ds])) s := fun σ H F fp E Q q => by
  obtain ⟨a, vs, h1, _, h4, h5⟩ := E.own hi
  refine ⟨.ref a, h1, F, [.list ds], E.ex, .cons (.inr ⟨_, _, _, rfl, rfl, h4, h5⟩) .nil, h, fun p vs' hp a' => ?_⟩
  exact q _ _ F fp (fun b => b = p) (E.growH hp) (Step.growH hp) ⟨p, vs', rfl, (fun _ z => nomatch z), fun _ => Iff.rfl, upd_same, a'⟩ (Own.laid E (Step.refl _ _ _) hp)
theorem eqv_ints : ∀ {xs ys : List Int}, PyData.eqvAll (xs.map PyData.int) (ys.map PyData.int) = decide (xs = ys)
  | [], [] => by simp [PyData.eqvAll]
  | [], y :: ys => by simp [PyData.eqvAll]
  | x :: xs, [] => by simp [PyData.eqvAll]
  | x :: xs, y :: ys => by
    rw [List.map_cons, List.map_cons]
    unfold PyData.eqvAll
    rw [eqv_ints (xs := xs) (ys := ys)]
    unfold PyData.eqv
    by_cases h : x = y <;> by_cases h2 : xs = ys <;> simp [h, h2]
theorem eqv_intL {xs ys : List Int} : PyData.eqv (.list (xs.map PyData.int)) (.list (ys.map PyData.int)) = decide (xs = ys) := by
  unfold PyData.eqv
  exact eqv_ints
theorem eqv_intT {xs ys : List Int} : PyData.eqv (.tuple (xs.map PyData.int)) (.tuple (ys.map PyData.int)) = decide (xs = ys) := by
  unfold PyData.eqv
  exact eqv_ints
theorem okL (ns : List Int) : SeqAt.shaped (.list (ns.map PyData.int)) = true := (sh_lst (n := 0) (ints_shs ns)).ok (by decide)
theorem okT (ns : List Int) : SeqAt.shaped (.tuple (ns.map PyData.int)) = true := (sh_tup (n := 0) (ints_shs ns)).ok (by decide)
/-- [e for i in range(n)] -/
theorem ev_lcR {tn : TE} {n : Int} {i : Nat} {f : Nat → D} (hn : Ev K tn s (.int n) s) (h1 : -1000000 ≤ n ∧ n ≤ 1000000) (hr : NoRes s [i]) (hw : ∀ y, SLe (((s.wipe [i]).set i y).wipe [i]) (s.wipe [i])) (he : ∀ k : Nat, (k : Int) < n → Ev K te ((s.wipe [i]).set i (.dat (.int (k : Nat)))) (f k) ((s.wipe [i]).set i (.dat (.int (k : Nat))))) :
    Ev K (tLc (iRng1 (tCons tn tNil)) (gName i) tYes te [i]) s (.list ((List.range n.toNat).map f)) s := by
  by_cases h0 : 0 ≤ n
  · refine Ev.to (ev_lcM (ds := upTo 0 n.toNat) (fun d => f (match d with | .int k => k.toNat | _ => 0)) (it_r1 hn (by omega)) (by rw [upTo_len]; exact le_size (by omega)) hr fun d hd => ?_) ?_
    · obtain ⟨k, hk, rfl⟩ := upTo_mem.mp hd
      refine ⟨_, tv_name (by simp), hw _, ?_⟩
      have e1 : (0 : Int) + (k : Int) = (k : Nat) := by omega
      rw [e1]
      exact he k (by omega)
    · unfold upTo
      rw [List.map_map]
      congr 1
      apply List.map_congr_left
      intro k _
      show f ((0 : Int) + (k : Int)).toNat = f k
      congr 1
      omega
  · have e0 : n.toNat = 0 := by omega
    rw [e0]
    refine Ev.to (ev_lcM (ds := upTo 0 n.toNat) (fun d => .none) (it_r1 hn (by omega)) (by rw [upTo_len]; exact le_size (by omega)) hr fun d hd => ?_) ?_
    · rw [e0] at hd
      simp [upTo] at hd
    · rw [e0]; rfl
/-- [e for i in xs], xs ints -/
theorem ev_lcI {tl : TE} {d : D} {ts : List Int} {i : Nat} {f : Int → D} (h : Ev K tl s d s) (hd : seqD d = some (ts.map PyData.int)) (hz : ts.length ≤ 1000000) (hr : NoRes s [i]) (hw : ∀ y, SLe (((s.wipe [i]).set i y).wipe [i]) (s.wipe [i])) (he : ∀ x, x ∈ ts → Ev K te ((s.wipe [i]).set i (.dat (.int x))) (f x) ((s.wipe [i]).set i (.dat (.int x)))) :
    Ev K (tLc (iSeq K tl) (gName i) tYes te [i]) s (.list (ts.map f)) s := by
  refine Ev.to (ev_lcM (fun d => match d with | .int k => f k | _ => .none) (it_seq h hd) (by rw [List.length_map]; exact le_size (by omega)) hr fun d hd => ?_) (by rw [List.map_map]; rfl)
  obtain ⟨x, hx, rfl⟩ := List.mem_map.mp hd
  exact ⟨_, tv_name (by simp), hw _, he x hx⟩
end
end DL

namespace DL
open PySem PySem.Spec PyProof.Rows L2
section
variable {K : PySem.W.Frag} {E : XK} {s s1 : S} {x1 x2 x3 : Sl} {ta : TA}
theorem run_tupX2 {i1 i2 : Nat} (h : EvX K ta s [x1, x2] s1) : Run K E (tAsg (tTup ta) (gTup K 2 (gCons (gName i1) (gCons (gName i2) gNil)))) s (.nx ((s1.set i1 x1).set i2 x2)) := fun σ H F fp e Ed q =>
  h σ H F fp e _ fun vs H' F' fp' P e' st l hx ol => by
    match vs, l with
    | [v1, v2], _ =>
      refine ⟨by show 2 ≤ sizeLine; decide, fun p hp => ?_⟩
      have ex := Ex.new (o := .tup [v1, v2]) hp
      have e2 := e'.growH (o := .tup [v1, v2]) hp
      have st2 := st.trans (Step.growH (F := F') (fp := fp') (o := .tup [v1, v2]) hp)
      have ow : ∀ i, Own H fp (upd H' p (.tup [v1, v2])) F' fp' (P i) := fun i => (ol.own i).growH hp
      have up : ∀ {i : Nat} {x : Sl} {sv : Option (Option V)}, SlOk K F' H' (P i) sv x → SlOk K F' (upd H' p (.tup [v1, v2])) (P i) sv x := fun {i x sv} z => z.mono (Ex.refl F') (fun b hb => ((ol.own i).th b hb).get ex) (ExtKeep.of ex)
      have z1 := up (hx 0 x1 rfl)
      have z2 := up (hx 1 x2 rfl)
      have o1 := ow 0
      have o2 := (ow 1).fps (i := .inl i1) (ol.dj 1 0 · (by decide))
      refine ⟨p, [v1, v2], rfl, .inl (.inl upd_same), rfl, v1, _, rfl, v2, _, rfl, rfl, ?_⟩
      exact q _ _ F' _ ((e2.setX (i := i1) z1 o1).setX (i := i2) z2 o2) ((st2.own o1).own o2)
theorem run_tupX3 {i1 i2 i3 : Nat} (h : EvX K ta s [x1, x2, x3] s1) : Run K E (tAsg (tTup ta) (gTup K 3 (gCons (gName i1) (gCons (gName i2) (gCons (gName i3) gNil))))) s (.nx (((s1.set i1 x1).set i2 x2).set i3 x3)) := fun σ H F fp e Ed q =>
  h σ H F fp e _ fun vs H' F' fp' P e' st l hx ol => by
    match vs, l with
    | [v1, v2, v3], _ =>
      refine ⟨by show 3 ≤ sizeLine; decide, fun p hp => ?_⟩
      have ex := Ex.new (o := .tup [v1, v2, v3]) hp
      have e2 := e'.growH (o := .tup [v1, v2, v3]) hp
      have st2 := st.trans (Step.growH (F := F') (fp := fp') (o := .tup [v1, v2, v3]) hp)
      have ow : ∀ i, Own H fp (upd H' p (.tup [v1, v2, v3])) F' fp' (P i) := fun i => (ol.own i).growH hp
      have up : ∀ {i : Nat} {x : Sl} {sv : Option (Option V)}, SlOk K F' H' (P i) sv x → SlOk K F' (upd H' p (.tup [v1, v2, v3])) (P i) sv x := fun {i x sv} z => z.mono (Ex.refl F') (fun b hb => ((ol.own i).th b hb).get ex) (ExtKeep.of ex)
      have z1 := up (hx 0 x1 rfl)
      have z2 := up (hx 1 x2 rfl)
      have z3 := up (hx 2 x3 rfl)
      have o1 := ow 0
      have o2 := (ow 1).fps (i := .inl i1) (ol.dj 1 0 · (by decide))
      have o3 := ((ow 2).fps (i := .inl i1) (ol.dj 2 0 · (by decide))).fps (i := .inl i2) (ol.dj 2 1 · (by decide))
      refine ⟨p, [v1, v2, v3], rfl, .inl (.inl upd_same), rfl, v1, _, rfl, v2, _, rfl, v3, _, rfl, rfl, ?_⟩
      exact q _ _ F' _ (((e2.setX (i := i1) z1 o1).setX (i := i2) z2 o2).setX (i := i3) z3 o3) (((st2.own o1).own o2).own o3)
end
end DL

namespace DL
open PySem PySem.Spec PyProof.Rows L2
theorem hu1 {X : Cx} {k : Nat} (hr : Room k X.A) : X.A.units + 1 < cLine := Nat.lt_of_le_of_lt (Nat.add_le_add_left (by decide) _) (hu65 hr)
theorem maxOf_le : ∀ (xs : List Int) (x : Int), x ≤ PySem.W.maxOf x xs ∧ (∀ y ∈ xs, y ≤ PySem.W.maxOf x xs) ∧ (PySem.W.maxOf x xs = x ∨ PySem.W.maxOf x xs ∈ xs)
  | [], x => ⟨Int.le_refl _, fun y h => by simp at h, .inl rfl⟩
  | y :: ys, x => by
    have e : PySem.W.maxOf x (y :: ys) = PySem.W.maxOf (if x < y then y else x) ys := by
      show List.foldl _ _ ys = List.foldl _ _ ys
      congr 1
      show (if decide (x < y) = true then y else x) = _
      simp
    obtain ⟨h1, h2, h3⟩ := maxOf_le ys (if x < y then y else x)
    rw [e]
    by_cases c : x < y
    · rw [if_pos c] at h1 h2 h3 ⊢
      refine ⟨by omega, fun z hz => ?_, ?_⟩
      · rcases List.mem_cons.mp hz with rfl | hz
        · exact h1
        · exact h2 z hz
      · rcases h3 with h | h
        · exact .inr (by rw [h]; exact List.mem_cons_self)
        · exact .inr (List.mem_cons_of_mem _ h)
    · rw [if_neg c] at h1 h2 h3 ⊢
      refine ⟨h1, fun z hz => ?_, ?_⟩
      · rcases List.mem_cons.mp hz with rfl | hz
        · omega
        · exact h2 z hz
      · rcases h3 with h | h
        · exact .inl h
        · exact .inr (List.mem_cons_of_mem _ h)
theorem maxOf_lmax {x : Int} {xs : List Int} : PySem.W.maxOf x xs = lmax (x :: xs) := by
  obtain ⟨h1, h2, h3⟩ := maxOf_le xs x
  refine (lmax_spec _ _ ?_ fun y hy => ?_).symm
  · rcases h3 with h | h
    · rw [h]; exact List.mem_cons_self
    · exact List.mem_cons_of_mem _ h
  · rcases List.mem_cons.mp hy with rfl | hy
    · exact h1
    · exact h2 y hy
def mmOkT : List D → Prop
  | [.tuple ds] => ds ≠ [] ∧ (intsOf ds).isSome = true
  | _ => False
def maxDT : List D → D
  | [.tuple ds] => .int (lmax ((intsOf ds).getD []))
  | _ => .none
theorem call_maxT {X : Cx} (hc : X.calm = true) (hu : X.A.units + 65 < cLine) : CallR X (.builtin "max") (rDn X.K mmOkT maxDT) := by
  intro pins s σ H xs us Q I r ⟨F, ds, e, ha, ok, k⟩
  match ds, ok, ha with
  | [.tuple ds], ⟨o1, o2⟩, .cons h1 .nil =>
    obtain ⟨p, vs, rfl, h2, _, h3⟩ := h1.tup e
    obtain ⟨ns, hn⟩ := Option.isSome_iff_exists.mp o2
    have ee := intsOf_eq hn
    subst ee
    rw [h3.ints] at h2
    obtain ⟨its, rv, hl, _⟩ := I.tuple h2
    have hi := rv.ints
    rw [Vals.ref1 r]
    cases ns with
    | nil => exact absurd rfl o1
    | cons x ns =>
      have H2 : PySem.W.HoldAll s.heap its (x :: ns) := PySem.W.HoldAll.of_ints hi
      refine PySem.W.max_tuple_datum (x := x) (xs := ns) (I.ok.hd hc) hl (by simpa using H2) (by show X.A.units + 1 + 0 < cLine; omega) fun i v h' tk hv hol hk => ?_
      rw [maxOf_lmax] at hol
      obtain ⟨t, rfl⟩ := PySem.W.int_of_holds hol
      have : maxDT [.tuple ((x :: ns).map PyData.int)] = .int (lmax (x :: ns)) := by simp only [maxDT, hn, Option.getD_some]
      rw [this] at k
      exact ⟨.int _, H, I.kept hk, ⟨_, rfl⟩, k _ H F (Grow.refl e) (.int _)⟩
section
variable {K : PySem.W.Frag} {s s1 : S} {ta : TE} {ms : List Int}
theorem ev_maxT (h : Ev K ta s (.tuple (ms.map PyData.int)) s1) (hn : ms ≠ []) : Ev K (tCB (rDn K mmOkT maxDT) (tCons ta tNil)) s (.int (lmax ms)) s1 := by
  refine (ev_cb (ea_cons h ea_nil) ⟨by simpa using hn, by rw [intsOf_map]; rfl⟩).to ?_
  show PyData.int (lmax ((intsOf (ms.map PyData.int)).getD [])) = _
  rw [intsOf_map]; rfl
end
end DL

namespace L2
open PySem PySem.Spec PyProof.Rows
section
variable {prog : Program} {w : World} {A : Around} {E : Value → Shared → Prop} {s : Shared}
theorem sliceApplied_rev {sl : Addr} {st : Value} {n : Nat} {Q : Int × Int × Nat → Shared → Prop} (hs : s.heap.IsSliceOf sl .none .none st) (ps : IsPart st (some (-1)))
    (h : Q ((n : Int) - 1, -1, n) s) : wpAny (model prog w) A (Builtin.Slice.sliceApplied (.ref sl) (pure (n : Int))) Q E s := by
  obtain ⟨os, hos, hcs, hds⟩ := id hs
  unfold Builtin.Slice.sliceApplied Builtin.Slice.sliceFields
  refine wpAny_bind (wpAny_bind (wpAny_field hos hds (x := .none) rfl (wpAny_bind (wpAny_field hos hds (x := .none) rfl (wpAny_bind (wpAny_field hos hds (x := st) rfl (wpAny_pure ?_)))))))
  refine wpAny_bind (HT.slicePart_ ps ?_)
  show wpAny _ _ (if ((-1 : Int) == 0) = true then _ else _) _ _ s
  rw [if_neg (by decide)]
  refine wpAny_bind (HT.slicePart_ .none (wpAny_bind (HT.slicePart_ .none (wpAny_bind (wpAny_pure ?_)))))
  show wpAny _ _ (pure ((n : Int) - 1, (-1 : Int), Builtin.Slice.slicePlaces ((n : Int) - 1) (-1) (-1))) _ _ s
  have e : Builtin.Slice.slicePlaces ((n : Int) - 1) (-1) (-1) = n := by
    unfold Builtin.Slice.slicePlaces
    rw [if_neg (by decide)]
    by_cases z : n = 0
    · subst z; rfl
    · rw [if_pos (by omega)]
      have : ((n : Int) - 1 - -1 - 1) / (- -1) = (n : Int) - 1 := by
        rw [show (- -1 : Int) = 1 by decide, Int.ediv_one]; omega
      rw [this]; omega
  rw [e]
  exact wpAny_pure h
theorem pick_rev (xs : Array Value) : ((List.range xs.size).filterMap fun (m : Nat) => xs[(((xs.size : Int) - 1) + (m : Int) * (-1)).toNat]?).toArray = xs.toList.reverse.toArray := by
  congr 1
  by_cases z : xs.size = 0
  · rw [z]
    have : xs.toList = [] := List.eq_nil_of_length_eq_zero (by rw [Array.length_toList]; exact z)
    rw [this]; rfl
  · have e : (fun (m : Nat) => xs[(((xs.size : Int) - 1) + (m : Int) * (-1)).toNat]?) = (fun (i : Nat) => xs[i]?) ∘ fun m => xs.size - 1 - m := by
      funext m
      show xs[(((xs.size : Int) - 1) + (m : Int) * (-1)).toNat]? = xs[xs.size - 1 - m]?
      congr 1
      omega
    rw [e, ← List.filterMap_map, PySem.W.krv_range, List.filterMap_reverse, PySem.W.krv_all]
theorem getItem_tuple_rev {t sl : Addr} {items : Array Value} {st : Value} {Q : Value → Shared → Prop} (ht : IsTup s.heap t items) (hs : s.heap.IsSliceOf sl .none .none st) (ps : IsPart st (some (-1)))
    (h : Q (.ref s.heap.objs.size) { s with heap := s.heap.push { cls := .type "tuple", data := .seq items.toList.reverse.toArray } })
    (hsz : items.size ≤ sizeLine) : wpAny (model prog w) A (getItem (.ref t) (.ref sl)) Q E s := by
  have htake : sizeOk (.seq items.toList.reverse.toArray) := by
    show items.toList.reverse.toArray.size ≤ sizeLine
    rw [List.size_toArray, List.length_reverse, Array.length_toList]
    exact hsz
  obtain ⟨os, hos, hcs, hds⟩ := id hs
  have hTs : s.TypeIs (.ref sl) "slice" := ⟨os, hos, hcs⟩
  unfold getItem
  try with_reducible refine wpAny_holding ?_
  first | refine wpAny_bind (wpAny_pure ?_) | skip
  refine wpAny_bind (wpAny_sequenceKey ht.typeIs (by decide) ?_)
  refine wpAny_bind (wpAny_callSpecial?_slot (name := Str.ofString "__getitem__") ht.typeIs PyProof.Rows.slot_tuple_getitem
    (wpAny_call_entry PyProof.Rows.slot_tuple_getitem ht.typeIs entry_tuple_getitem ?_ (args_tuple_getitem _ _)))
  show wpAny _ _ (Builtin.Tuple.tupleItemsOf (.ref t) >>= _) _ _ s
  refine wpAny_bind (tupleItemsOf_ ht ?_)
  refine wpAny_bind (wpAny_typeOf hTs ?_)
  rw [if_pos (by decide)]
  refine wpAny_bind (sliceApplied_rev hs ps ?_)
  have hno : ¬ ((((items.size : Int) - 1) == 0 && (-1 : Int) == 1 && items.size == items.size) = true) := by
    intro q
    rw [Bool.and_eq_true, Bool.and_eq_true] at q
    exact absurd (eq_of_beq q.1.2) (by decide)
  show wpAny _ _ (if (((items.size : Int) - 1) == 0 && (-1 : Int) == 1 && items.size == items.size) = true then _ else _) _ _ s
  rw [if_neg hno, pick_rev]
  first
    | exact wpAny_bind (m := Builtin.Tuple.tupleExact _) (wpAny_newObj_type (wpAny_pure ⟨_, rfl, wpAny_pure h⟩) htake)
    | exact wpAny_bind (m := Builtin.Tuple.tupleExact _) (wpAny_newObj_type (wpAny_bind (wpAny_pure (wpAny_pure ⟨_, rfl, wpAny_pure h⟩))) htake)
    | exact wpAny_bind (wpAny_bind (m := Builtin.Tuple.tupleExact _) (wpAny_newObj_type (wpAny_pure (wpAny_pure ⟨_, rfl, wpAny_pure h⟩)) htake))
    | exact wpAny_bind (wpAny_bind (m := Builtin.Tuple.tupleExact _) (wpAny_newObj_type (wpAny_pure ⟨_, rfl, wpAny_pure h⟩) htake))
end
section
variable {X : Cx}
/-- t[::-1] -/
def tRevT (K : PySem.W.Frag) (te : TE) : TE := fun σ H Q => te σ H fun x H1 => ∃ a xs, x = .ref a ∧ SqT K H1 a xs ∧ ∀ p, H1 p = none → Q (.ref p) (upd H1 p (.tup xs.reverse))
theorem pe_revT {e : Expr} {te : TE} {k : Nat} {p1 p2 p3 pos : Pos} (he : PE X e te) : PE X (.Subscript e (.Slice none none (some (.UnaryOp .USub (.Constant (.int 1) k p1) p2)) p3) pos) (tRevT X.K te) := by
  refine ⟨fun pins s σ H Q I h => ?_⟩
  refine Subscript_ (thn (he.run pins s σ H _ I h) fun v s1 ⟨x, H1, I1, r1, q1⟩ => ?_)
  obtain ⟨a, xs, ex, hx, q⟩ := q1
  subst ex
  cases r1
  have hst : PO X (some (.UnaryOp .USub (.Constant (.int 1) k p1) p2)) (tPart (tUn (rU fun i => .int (-i)) (tC (.int 1)))) := po_some (pe_un un_neg pe_int)
  refine wpAny_Slice (thn (po_none.run pins s1 σ H1 (fun o H2 => o = none ∧ H2 = H1) I1 ⟨rfl, rfl⟩) fun vl s2 ⟨l, H2, I2, pl, el, e2⟩ => ?_)
  subst el e2
  refine thn (po_none.run pins s2 σ H2 (fun o H3 => o = none ∧ H3 = H2) I2 ⟨rfl, rfl⟩) fun vu s3 ⟨u, H3, I3, pu, eu, e3⟩ => ?_
  subst eu e3
  refine thn (hst.run pins s3 σ H3 (fun o H4 => o = some (-1) ∧ H4 = H3) I3 ⟨1, rfl, -1, rfl, rfl, rfl⟩) fun vs s4 ⟨o, H4, I4, ps, eo, e4⟩ => ?_
  subst eo e4
  have I5 : Inv X pins σ H4 { s4 with heap := s4.heap.push { cls := .type "slice", data := .fields #[vl, vu, vs] } } := I4.kept (t' := s4.toks) fun b ob q => Heap.get?_push_of_some _ q
  obtain ⟨its, r, ht, hz⟩ := I5.tuple hx
  have hlen := r.length
  show wpAny (model X.prog X.w) X.A (subscriptTail e (.Slice none none (some (.UnaryOp .USub (.Constant (.int 1) k p1) p2)) p3) (.ref a) (.ref s4.heap.objs.size)) (EP X pins σ Q) X.xe { s4 with heap := s4.heap.push { cls := .type "slice", data := .fields #[vl, vu, vs] } }
  refine tail_any (ops := [.ref a, .ref s4.heap.objs.size]) ht.typeIs (PyProof.Rows.slot_tuple_getitem.lookup) ?_ (by with_unfolding_all rfl)
  cases pl
  cases pu
  refine getItem_tuple_rev ht (Heap.IsSliceOf.new _ .none .none vs) ps ?_ (by rw [List.size_toArray]; omega)
  refine ⟨.ref _, _, I5.laid (t' := s4.toks) (o := .tup xs.reverse) (fun b ob q => Heap.get?_push_of_some _ q) (Nat.le_refl _) ?_, rfl, q _ (I5.hok.fresh (Nat.le_refl _))⟩
  exact ⟨by rw [List.length_reverse]; exact hz, _, r.reverse, ⟨_, Heap.get?_push_size _ rfl, rfl, 0, rfl⟩⟩
end
end L2
namespace DL
open PySem PySem.Spec PyProof.Rows L2
section
variable {K : PySem.W.Frag} {s s1 : S} {te : TE} {ds : List D}
theorem AtAll.reverse {F : Hp} : ∀ {vs : List V} {ds : List D}, AtAll K F vs ds → AtAll K F vs.reverse ds.reverse
  | _, _, .nil => .nil
  | _, _, .cons h t => by rw [List.reverse_cons, List.reverse_cons]; exact (AtAll.reverse t).snoc h
theorem ev_revT (h : Ev K te s (.tuple ds) s1) : Ev K (tRevT K te) s (.tuple ds.reverse) s1 := fun σ H F fp E Q q =>
  h σ H F fp E _ fun v H1 F1 fp1 E1 st1 a1 => by
    cases a1 with
    | @tup a vs _ hs ha =>
      refine ⟨_, _, rfl, E1.ex.sqT hs, fun p hp => ?_⟩
      have g : Grow F1 H1 (upd F1 p (.tup vs.reverse)) (upd H1 p (.tup vs.reverse)) := Grow.laid E1.ex hp
      exact q _ _ _ fp1 (E1.grow g) (st1.trans (E1.growS g)) (.tup (.inl (.inl upd_same)) (ha.reverse.ex g.f))
theorem ev_revL (h : Ev K te s (.list ds) s1) : Ev K (tRevL K te) s (.list ds.reverse) s1 := fun σ H F fp E Q q =>
  h σ H F fp E _ fun v H1 F1 fp1 E1 st1 a1 => by
    cases a1 with
    | @lst a vs _ hs ha =>
      refine ⟨_, _, rfl, .inl (.inl (E1.ex _ _ hs)), fun p hp => ?_⟩
      have g : Grow F1 H1 (upd F1 p (.lst vs.reverse)) (upd H1 p (.lst vs.reverse)) := Grow.laid E1.ex hp
      exact q _ _ _ fp1 (E1.grow g) (st1.trans (E1.growS g)) (.lst upd_same (ha.reverse.ex g.f))
end
theorem cut_map {α β : Type} (f : α → β) (xs : List α) (lo hi : Option Int) : cutL (xs.map f) lo hi = (cutL xs lo hi).map f := by
  unfold cutL
  rw [List.length_map, ← List.map_drop, ← List.map_take]
theorem cut_len {α : Type} (xs : List α) (lo hi : Option Int) : (cutL xs lo hi).length ≤ xs.length := by
  unfold cutL
  rw [List.length_take, List.length_drop]
  omega
end DL

namespace CM
open PySem PySem.Spec PyProof.Rows L2 DL
/-! ### the choices of a plan, a dict -/
structure PL where
  rows : Int
  lamps : Int
  crews : Int
  work : Int
  every : Int
  early : Int
  sync : Int
  burst : Int
  gap : Int
  trips : Int
  drift : Int
  cloud : Int
  most : Int
  fixed : Int
  spare : Int
def plKV (p : PL) : List (D × D) := [(.str "rows", .int p.rows), (.str "lamps", .int p.lamps), (.str "crews", .int p.crews), (.str "work", .int p.work), (.str "every", .int p.every), (.str "early", .int p.early), (.str "sync", .int p.sync), (.str "burst", .int p.burst), (.str "gap", .int p.gap), (.str "trips", .int p.trips), (.str "drift", .int p.drift), (.str "cloud", .int p.cloud), (.str "most", .int p.most), (.str "fixed", .int p.fixed), (.str "spare", .int p.spare)]
def plD (p : PL) : D := .dict (plKV p)
theorem pl_rows {p : PL} : dlook (plKV p) (.inr "rows") = some (.int p.rows) := by kernel_rfl
theorem pl_lamps {p : PL} : dlook (plKV p) (.inr "lamps") = some (.int p.lamps) := by kernel_rfl
theorem pl_crews {p : PL} : dlook (plKV p) (.inr "crews") = some (.int p.crews) := by kernel_rfl
theorem pl_work {p : PL} : dlook (plKV p) (.inr "work") = some (.int p.work) := by kernel_rfl
theorem pl_every {p : PL} : dlook (plKV p) (.inr "every") = some (.int p.every) := by kernel_rfl
theorem pl_early {p : PL} : dlook (plKV p) (.inr "early") = some (.int p.early) := by kernel_rfl
theorem pl_sync {p : PL} : dlook (plKV p) (.inr "sync") = some (.int p.sync) := by kernel_rfl
theorem pl_burst {p : PL} : dlook (plKV p) (.inr "burst") = some (.int p.burst) := by kernel_rfl
theorem pl_gap {p : PL} : dlook (plKV p) (.inr "gap") = some (.int p.gap) := by kernel_rfl
theorem pl_trips {p : PL} : dlook (plKV p) (.inr "trips") = some (.int p.trips) := by kernel_rfl
theorem pl_drift {p : PL} : dlook (plKV p) (.inr "drift") = some (.int p.drift) := by kernel_rfl
theorem pl_cloud {p : PL} : dlook (plKV p) (.inr "cloud") = some (.int p.cloud) := by kernel_rfl
theorem pl_most {p : PL} : dlook (plKV p) (.inr "most") = some (.int p.most) := by kernel_rfl
theorem pl_fixed {p : PL} : dlook (plKV p) (.inr "fixed") = some (.int p.fixed) := by kernel_rfl
theorem pl_spare {p : PL} : dlook (plKV p) (.inr "spare") = some (.int p.spare) := by kernel_rfl
/-- the dice behind the first k rolls -/
def rolls (l : List Int) (d : Dice) (k : Nat) : Dice := (l.take k).foldl CM.rd d
theorem rolls_ok {n : Int} {d : Dice} {l : List Int} (h : DOk n d) : ∀ k : Nat, DOk (n + k) (rolls l d k) := by
  intro k
  have key : ∀ (m : List Int) (n : Int) (d : Dice), DOk n d → DOk (n + m.length) (m.foldl CM.rd d) := by
    intro m
    induction m with
    | nil => intro n d h; exact h.up (by simp)
    | cons x m ih => intro n d h; exact (ih (n + 1) _ h.rd).up (by simp; omega)
  refine (key (l.take k) n d h).up ?_
  rw [List.length_take]
  omega
def ofInt : D → Int
  | .int n => n
  | _ => 0
/-- what is drawn small -/
def chD (d : Dice) (k : Nat) : Dice := rolls [4, 3, 3, 5, 5, 14, 3, 4, 5, 6, 3, 6, 14, 22, 30] d k
def chP (d : Dice) : PL := ⟨ofInt (pick d [.int 1, .int 2, .int 2, .int 3]), 1 + rv (chD d 1) 3, 1 + rv (chD d 2) 3, 1 + rv (chD d 3) 5, 1 + rv (chD d 4) 5, rv (chD d 5) 14, 1 + rv (chD d 6) 3, 1 + rv (chD d 7) 4, 1 + rv (chD d 8) 5, ofInt (pick (chD d 9) [.int 0, .int 0, .int 1, .int 1, .int 2, .int 3]), rv (chD d 10) 3, rv (chD d 11) 6, rv (chD d 12) 14, rv (chD d 13) 22, rv (chD d 14) 30⟩
/-- what is drawn from the whole table -/
def wdD (d : Dice) (k : Nat) : Dice := rolls [3, 4, 4, 12, 12, 61, 10, 6, 12, 4, 6, 31, 101, 30, 2, 101, 40, 2, 201] d k
def wdP (d : Dice) : PL := ⟨1 + rv (wdD d 0) 3, 1 + rv (wdD d 1) 4, 1 + rv (wdD d 2) 4, 1 + rv (wdD d 3) 12, 1 + rv (wdD d 4) 12, rv (wdD d 5) 61, 1 + rv (wdD d 6) 10, 1 + rv (wdD d 7) 6, 1 + rv (wdD d 8) 12, rv (wdD d 9) 4, rv (wdD d 10) 6, rv (wdD d 11) 31,
  ofInt (pick (wdD d 14) [.int (rv (wdD d 12) 101), .int (rv (wdD d 13) 30)]), ofInt (pick (wdD d 17) [.int (rv (wdD d 15) 101), .int (rv (wdD d 16) 40)]), rv (wdD d 18) 201⟩
/-- choices that the table lets -/
structure POk (p : PL) : Prop where
  rows : 1 ≤ p.rows ∧ p.rows ≤ 3
  lamps : 1 ≤ p.lamps ∧ p.lamps ≤ 4
  crews : 1 ≤ p.crews ∧ p.crews ≤ 4
  work : 1 ≤ p.work ∧ p.work ≤ 12
  every : 1 ≤ p.every ∧ p.every ≤ 12
  early : 0 ≤ p.early ∧ p.early ≤ 60
  sync : 1 ≤ p.sync ∧ p.sync ≤ 10
  burst : 1 ≤ p.burst ∧ p.burst ≤ 6
  gap : 1 ≤ p.gap ∧ p.gap ≤ 12
  trips : 0 ≤ p.trips ∧ p.trips ≤ 3
  drift : 0 ≤ p.drift ∧ p.drift ≤ 5
  cloud : 0 ≤ p.cloud ∧ p.cloud ≤ 30
  most : 0 ≤ p.most ∧ p.most ≤ 100
  fixed : 0 ≤ p.fixed ∧ p.fixed ≤ 100
  spare : 0 ≤ p.spare ∧ p.spare ≤ 200
theorem pick4 {d : Dice} : pick d [.int 1, .int 2, .int 2, .int 3] = .int (ofInt (pick d [.int 1, .int 2, .int 2, .int 3])) ∧ 1 ≤ ofInt (pick d [.int 1, .int 2, .int 2, .int 3]) ∧ ofInt (pick d [.int 1, .int 2, .int 2, .int 3]) ≤ 3 := by
  have h := pick_mem (d := d) (xs := [.int 1, .int 2, .int 2, .int 3]) (List.cons_ne_nil _ _)
  generalize pick d [.int 1, .int 2, .int 2, .int 3] = y at h ⊢
  simp only [List.mem_cons, List.not_mem_nil, or_false] at h
  rcases h with h | h | h | h <;> subst h <;> exact ⟨rfl, by decide, by decide⟩
theorem pick6 {d : Dice} : pick d [.int 0, .int 0, .int 1, .int 1, .int 2, .int 3] = .int (ofInt (pick d [.int 0, .int 0, .int 1, .int 1, .int 2, .int 3])) ∧ 0 ≤ ofInt (pick d [.int 0, .int 0, .int 1, .int 1, .int 2, .int 3]) ∧ ofInt (pick d [.int 0, .int 0, .int 1, .int 1, .int 2, .int 3]) ≤ 3 := by
  have h := pick_mem (d := d) (xs := [.int 0, .int 0, .int 1, .int 1, .int 2, .int 3]) (List.cons_ne_nil _ _)
  generalize pick d [.int 0, .int 0, .int 1, .int 1, .int 2, .int 3] = y at h ⊢
  simp only [List.mem_cons, List.not_mem_nil, or_false] at h
  rcases h with h | h | h | h | h | h <;> subst h <;> exact ⟨rfl, by decide, by decide⟩
theorem pick2 {d : Dice} {a b m : Int} (ha : 0 ≤ a ∧ a ≤ m) (hb : 0 ≤ b ∧ b ≤ m) : pick d [.int a, .int b] = .int (ofInt (pick d [.int a, .int b])) ∧ 0 ≤ ofInt (pick d [.int a, .int b]) ∧ ofInt (pick d [.int a, .int b]) ≤ m := by
  have h := pick_mem (d := d) (xs := [.int a, .int b]) (List.cons_ne_nil _ _)
  generalize pick d [.int a, .int b] = y at h ⊢
  simp only [List.mem_cons, List.not_mem_nil, or_false] at h
  rcases h with h | h <;> subst h
  · exact ⟨rfl, ha⟩
  · exact ⟨rfl, hb⟩
theorem chP_ok (d : Dice) : POk (chP d) := by
  have r := fun (d : Dice) (t : Int) (h : 0 < t) => And.intro (rv0 (d := d) h) (rv1 (d := d) h)
  have h0 := (pick4 (d := d)).2
  have h1 := r (chD d 1) 3 (by decide); have h2 := r (chD d 2) 3 (by decide); have h3 := r (chD d 3) 5 (by decide); have h4 := r (chD d 4) 5 (by decide)
  have h5 := r (chD d 5) 14 (by decide); have h6 := r (chD d 6) 3 (by decide); have h7 := r (chD d 7) 4 (by decide); have h8 := r (chD d 8) 5 (by decide)
  have h9 := (pick6 (d := chD d 9)).2; have h10 := r (chD d 10) 3 (by decide); have h11 := r (chD d 11) 6 (by decide); have h12 := r (chD d 12) 14 (by decide)
  have h13 := r (chD d 13) 22 (by decide); have h14 := r (chD d 14) 30 (by decide)
  constructor <;> simp only [chP] <;> omega
theorem wdP_ok (d : Dice) : POk (wdP d) := by
  have r := fun (d : Dice) (t : Int) (h : 0 < t) => And.intro (rv0 (d := d) h) (rv1 (d := d) h)
  have h0 := r (wdD d 0) 3 (by decide); have h1 := r (wdD d 1) 4 (by decide); have h2 := r (wdD d 2) 4 (by decide); have h3 := r (wdD d 3) 12 (by decide); have h4 := r (wdD d 4) 12 (by decide)
  have h5 := r (wdD d 5) 61 (by decide); have h6 := r (wdD d 6) 10 (by decide); have h7 := r (wdD d 7) 6 (by decide); have h8 := r (wdD d 8) 12 (by decide)
  have h9 := r (wdD d 9) 4 (by decide); have h10 := r (wdD d 10) 6 (by decide); have h11 := r (wdD d 11) 31 (by decide)
  have h12 := r (wdD d 12) 101 (by decide); have h13 := r (wdD d 13) 30 (by decide); have h15 := r (wdD d 15) 101 (by decide); have h16 := r (wdD d 16) 40 (by decide); have h18 := r (wdD d 18) 201 (by decide)
  have k1 := (pick2 (d := wdD d 14) (a := rv (wdD d 12) 101) (b := rv (wdD d 13) 30) (m := 100) (by omega) (by omega)).2
  have k2 := (pick2 (d := wdD d 17) (a := rv (wdD d 15) 101) (b := rv (wdD d 16) 40) (m := 100) (by omega) (by omega)).2
  constructor <;> simp only [wdP] <;> omega
theorem chD_ok {n : Int} {d : Dice} (h : DOk n d) (k : Nat) : DOk (n + k) (chD d k) := rolls_ok h k
theorem wdD_ok {n : Int} {d : Dice} (h : DOk n d) (k : Nat) : DOk (n + k) (wdD d k) := rolls_ok h k
end CM

local macro_rules | `(tactic| walk_at "pl") => `(tactic| first | exact CM.pl_rows | exact CM.pl_lamps | exact CM.pl_crews | exact CM.pl_work | exact CM.pl_every | exact CM.pl_early | exact CM.pl_sync | exact CM.pl_burst | exact CM.pl_gap | exact CM.pl_trips | exact CM.pl_drift | exact CM.pl_cloud | exact CM.pl_most | exact CM.pl_fixed | exact CM.pl_spare | kernel_rfl)
local macro_rules | `(tactic| walk_at "eps") => `(tactic| first | exact DL.ep_nil | (apply DL.ep_consS; (walk_at "ev"); walk_at "eps"))
local macro_rules | `(tactic| walk_at "side") => `(tactic| first | rfl | trivial | assumption | decide | omega | (simp only [List.length_nil, List.length_cons, List.length_map, List.length_append]; first | decide | omega))
local macro_rules | `(tactic| walk_at "mul") => `(tactic| first | exact Or.inl ⟨by decide, by decide⟩ | exact Or.inr ⟨by decide, by decide⟩ | exact Or.inl ⟨by omega, by omega⟩ | exact Or.inr ⟨by omega, by omega⟩)
local macro_rules | `(tactic| walk_at "dk") => `(tactic| first | assumption | (apply CM.DOk.rd; walk_at "dk"))
local macro_rules | `(tactic| walk_at "R") => `(tactic| first | apply_assumption | (constructor <;> first | rfl | assumption | exact List.cons_ne_nil _ _ | walk_at "dk" | walk_at "side"))
local macro_rules | `(tactic| walk_at "ea") => `(tactic| first
  | exact DL.ea_nil
  | (apply DL.ea_cons; (walk_at "ev"); walk_at "ea"))
local macro_rules | `(tactic| walk_at "ev") => `(tactic| first
  | exact DL.ev_int | exact DL.ev_bl | exact DL.ev_str | exact DL.ev_non | exact DL.ev_var rfl
  | (apply DL.ev_addI; (walk_at "ev"); walk_at "ev")
  | (apply DL.ev_subI; (walk_at "ev"); walk_at "ev")
  | (apply DL.ev_mulVI; (walk_at "ev"); (walk_at "ev"); walk_at "mul")
  | (apply DL.ev_mulVT; (walk_at "ev"); (walk_at "ev"); walk_at "side")
  | (apply DL.ev_mulVL; (walk_at "ev"); (walk_at "ev"); walk_at "side")
  | (apply DL.ev_divI; (walk_at "ev"); (walk_at "ev"); walk_at "side")
  | (apply DL.ev_modI; (walk_at "ev"); (walk_at "ev"); walk_at "side")
  | (apply DL.ev_ltI; (walk_at "ev"); walk_at "ev")
  | (apply DL.ev_leI; (walk_at "ev"); walk_at "ev")
  | (apply DL.ev_gtI; (walk_at "ev"); walk_at "ev")
  | (apply DL.ev_geI; (walk_at "ev"); walk_at "ev")
  | (apply DL.ev_eqI; (walk_at "ev"); walk_at "ev")
  | (apply DL.ev_neI; (walk_at "ev"); walk_at "ev")
  | (apply DL.ev_isN; (walk_at "ev"); exact DL.ev_non)
  | (apply DL.ev_isnN; (walk_at "ev"); exact DL.ev_non)
  | (apply DL.ev_negI; walk_at "ev")
  | (apply DL.ev_lenO; rfl)
  | (apply DL.ev_lenL; walk_at "ea")
  | (apply DL.ev_lenS; walk_at "ev")
  | (apply DL.ev_lenT; walk_at "ea")
  | (apply DL.ev_ixO; rfl; (walk_at "ev"); rfl; rfl)
  | (apply DL.ev_ixL; (walk_at "ev"); (walk_at "ev"); rfl)
  | (apply DL.ev_ixT; (walk_at "ev"); (walk_at "ev"); rfl)
  | (apply DL.ev_addL; (walk_at "ev"); (walk_at "ev"); walk_at "side")
  | (apply DL.ev_addT; (walk_at "ev"); (walk_at "ev"); walk_at "side")
  | (apply DL.ev_tup; (walk_at "ea"); walk_at "side")
  | (apply DL.ev_lst; (walk_at "ea"); walk_at "side")
  | (apply DL.ev_not; walk_at "ev")
  | (apply DL.ev_and; (walk_at "ev"); (intro _; walk_at "ev"))
  | (apply DL.ev_or; (walk_at "ev"); (intro _; walk_at "ev"))
  | (apply DL.ev_powI; (walk_at "ev"); (walk_at "ev"); walk_at "side")
  | (apply DL.ev_intI; walk_at "ev")
  | (apply DL.ev_absI; walk_at "ev")
  | (apply DL.ev_maxI; (walk_at "ev"); walk_at "ev")
  | (apply DL.ev_minI; (walk_at "ev"); walk_at "ev")
  | (apply DL.ev_slS; (walk_at "ev"); (walk_at "ep"); walk_at "ep")
  | (apply DL.ev_slL; (walk_at "ev"); (walk_at "ep"); walk_at "ep")
  | (apply DL.ev_slT; (walk_at "ev"); (walk_at "ep"); walk_at "ep")
  | (apply DL.ev_tupO; rfl)
  | (apply DL.ev_tupL; walk_at "ev")
  | (apply DL.ev_tupT; walk_at "ev")
  | (apply DL.ev_sortL; walk_at "ev")
  | (apply DL.ev_sortT; walk_at "ev")
  | (apply DL.ev_lstL; walk_at "ev")
  | (apply DL.ev_lstT; walk_at "ev")
  | (apply DL.ev_dgetS; (walk_at "ev"); walk_at "pl")
  | (apply DL.ev_call; (walk_at "ea"); walk_at "R")
  | (apply DL.ev_callM; (walk_at "ea"); (walk_at "ea"); rfl; rfl; decide; walk_at "R")
  | (apply DL.ev_callL; rfl; (walk_at "ea"); rfl; (intro _; walk_at "R")))
local macro_rules | `(tactic| walk_at "et") => `(tactic| first
  | (apply DL.et_test; walk_at "ev")
  | (apply DL.et_B; walk_at "ev")
  | (apply DL.et_not; walk_at "et")
  | (apply DL.et_andF; (apply DL.EvT.to); (walk_at "et"); walk_at "bool")
  | (apply DL.et_orT; (apply DL.EvT.to); (walk_at "et"); walk_at "bool")
  | (apply DL.et_and; (walk_at "et"); (intro _; walk_at "et"))
  | (apply DL.et_or; (walk_at "et"); (intro _; walk_at "et")))
local macro_rules | `(tactic| walk_at "bool") => `(tactic| first | rfl | assumption | (simp only [Bool.not_false, Bool.not_true, Bool.or_false, Bool.or_true, Bool.and_true, Bool.and_false, Bool.not_eq_true', Bool.not_eq_false', decide_eq_true_eq, decide_eq_false_iff_not, Bool.or_eq_true, Bool.or_eq_false_iff, Bool.and_eq_true, Bool.and_eq_false_iff] <;> first | assumption | omega) | (simp [*]; done))
local macro_rules | `(tactic| walk_at "st") => `(tactic| first
  | (apply DL.run_asg; walk_at "ev")
  | (apply DL.run_asgT; (walk_at "ev"); walk_at "tg")
  | (apply DL.run_drop; walk_at "ev")
  | (apply DL.run_parX; walk_at "ex")
  | (apply DL.run_parX3; walk_at "ex")
  | (apply DL.run_aug; rfl; walk_at "ev")
  | (apply DL.run_append; rfl; (walk_at "ev"); rfl; walk_at "side")
  | (apply DL.run_putDS; (walk_at "ev"); rfl; exact DL.le_size (by decide))
  | (apply DL.run_setL; (walk_at "ev"); rfl; (walk_at "ev"); rfl; rfl)
  | (apply DL.run_ret; walk_at "ev"))
local macro_rules | `(tactic| walk_at "ex") => `(tactic| first
  | exact DL.ex_nil
  | (apply DL.ex_res; (apply DL.eo_lst; (walk_at "ea"); walk_at "side"); walk_at "ex")
  | (apply DL.ex_dat; (walk_at "ev"); walk_at "ex"))
local macro_rules | `(tactic| walk_at "d") => `(tactic| try dsimp only [DL.S.set, List.set_cons_zero, List.set_cons_succ, List.map_cons, List.map_nil])
local macro_rules | `(tactic| walk_at "s") => `(tactic| (apply DL.run_seq; (walk_at "st"); walk_at "d"))
local macro_rules | `(tactic| walk_at "tb") => `(tactic| (apply DL.EvT.to; (walk_at "et"); walk_at "bool"))
local macro_rules | `(tactic| walk_at "no") => `(tactic| (apply DL.run_seq; (apply DL.run_no; (walk_at "tb"); exact DL.run_next); walk_at "d"))
local macro_rules | `(tactic| walk_at "ep") => `(tactic| first | exact DL.ep_none | (apply DL.ep_some; walk_at "ev"))
local macro_rules | `(tactic| walk_at "fo") => `(tactic| first | exact DL.Fo.nil | (apply DL.Fo.same; walk_at "fo") | (apply DL.Fo.unk; walk_at "fo") | (apply DL.Fo.int; (first | omega | (simp; done)); walk_at "fo"))
local macro_rules | `(tactic| walk_at "le") => `(tactic| (apply DL.run_le; (walk_at "st"); (walk_at "d"); apply DL.Fo.le; walk_at "fo"))
local macro_rules | `(tactic| walk_at "ret") => `(tactic| (apply DL.run_retle; (walk_at "ev"); apply DL.Fo.le; walk_at "fo"))
local macro_rules | `(tactic| walk_at "retT") => `(tactic| (apply DL.run_retle; (apply DL.Ev.to; (walk_at "ev"); walk_at "bool"); apply DL.Fo.le; walk_at "fo"))
local macro_rules | `(tactic| walk_at "lam") => `(tactic| (apply DL.ev_lamX; intro _; apply DL.er_call; (walk_at "ea"); walk_at "R"))
local macro_rules | `(tactic| walk_at "w") => `(tactic| (dsimp only [DL.S.wipe, DL.wipeL, DL.S.set, List.set_cons_zero, List.set_cons_succ]))
local macro_rules | `(tactic| walk_at "lv") => `(tactic| first | exact DL.Lv.nil | (apply DL.Lv.dat; walk_at "lv") | (apply DL.Lv.unk; walk_at "lv") | (apply DL.Lv.res (by first | rfl | assumption) DL.pin_lst; walk_at "lv"))
local macro_rules | `(tactic| walk_at "tg") => `(tactic| first | exact DL.tg_name | (apply DL.tg_tup; (walk_at "tgs"); rfl))
local macro_rules | `(tactic| walk_at "tgs") => `(tactic| first | exact DL.tg_nil | (apply DL.tg_cons; (walk_at "tg"); walk_at "tgs"))
local macro_rules | `(tactic| walk_at "nr") => `(tactic| first | exact DL.noRes_nil | (apply DL.noRes_u rfl; walk_at "nr") | (apply DL.noRes_d rfl; walk_at "nr"))
local macro_rules | `(tactic| walk_at "bk") => `(tactic| first | exact DL.Bk.nil | (apply DL.Bk.keep (by decide); walk_at "bk") | (apply DL.Bk.own (by decide); walk_at "bk") | (apply DL.Bk.unk; walk_at "bk"))
local macro_rules | `(tactic| walk_at "tv") => `(tactic| first | exact DL.tv_name (by decide) | (apply DL.tv_tup; (walk_at "tvs"); rfl))
local macro_rules | `(tactic| walk_at "tvs") => `(tactic| first | exact DL.tv_nil | (apply DL.tv_cons; (walk_at "tv"); walk_at "tvs"))
local macro_rules | `(tactic| walk_at "rs") => `(tactic| (apply DL.run_end; (apply DL.run_dropX; apply DL.er_call; (walk_at "ea"); walk_at "R"); rfl))
local macro_rules | `(tactic| walk_at "hw") => `(tactic| (intro y; (walk_at "w"); exact DL.Fo.le (by walk_at "fo")))
local macro_rules | `(tactic| walk_at "lcR") => `(tactic| (apply DL.ev_lcR; (walk_at "ev"); (walk_at "side"); (walk_at "nr"); (walk_at "hw"); (intro k hk; walk_at "w")))
local macro_rules | `(tactic| walk_at "lcI") => `(tactic| (apply DL.ev_lcI; (walk_at "ev"); rfl; (walk_at "side"); (walk_at "nr"); (walk_at "hw"); (intro x hx; walk_at "w")))

namespace CM
open PySem PySem.Spec PyProof.Rows L2 DL
variable {K : PySem.W.Frag} {C : Str → Addr} {T : List (Addr × Str)} {E : XK}
def isInt : D → Bool
  | .int _ => true
  | _ => false
def isIn (d : D) (lo hi : Int) : Bool := match d with
  | .int n => decide (lo ≤ n) && decide (n ≤ hi)
  | _ => false
inductive R_is_integer (K : PySem.W.Frag) (C : Str → Addr) (T : List (Addr × Str)) : FR
  | mk {v g} (h : noScr v = true) : R_is_integer K C T ⟨[.dat v], g⟩ (.rt (.bool (isInt v)) ⟨[.dat v], g⟩)
inductive R_is_in (K : PySem.W.Frag) (C : Str → Addr) (T : List (Addr × Str)) : FR
  | mk {v lo hi g} (h : noScr v = true) : R_is_in K C T ⟨[.dat v, .dat (.int lo), .dat (.int hi)], g⟩ (.rt (.bool (isIn v lo hi)) ⟨[.dat v, .dat (.int lo), .dat (.int hi)], g⟩)
inductive R_demand (K : PySem.W.Frag) (C : Str → Addr) (T : List (Addr × Str)) : FR
  | ok {b x g} (h : b = true) : R_demand K C T ⟨[.dat (.bool b), .dat x], g⟩ (.rt .none ⟨[.dat (.bool b), .dat x], g⟩)
  | no {b x g} (h : b = false) : R_demand K C T ⟨[.dat (.bool b), .dat x], g⟩ (.ex (C "BadArgument") "name" x ⟨[.dat (.bool b), .dat x], g⟩)
def t_is_integer (K : PySem.W.Frag) (C : Str → Addr) (T : List (Addr × Str)) (E : XK) : TS :=
  (tRet (tAndV (tCB (rIsi K) (tCons (tVar 0) (tCons (tC (.ty "int")) tNil))) (tNotV (tCB (rIsi K) (tCons (tVar 0) (tCons (tC (.ty "bool")) tNil))))))
def t_is_in (K : PySem.W.Frag) (C : Str → Addr) (T : List (Addr × Str)) (E : XK) : TS :=
  (tRet (tAndV (tCall (spF K (R_is_integer K C T)) [] E (tCons (tVar 0) tNil)) (tChain (rD2 K ordOk leD) (rD2 K ordOk leD) (tVar 1) (tVar 0) (tVar 2))))
def t_demand (K : PySem.W.Frag) (C : Str → Addr) (T : List (Addr × Str)) (E : XK) : TS :=
  (tIfS (tNot (tB (tVar 0))) (BX.tRaiseX (C "BadArgument") "name" (fun cls d _ H => E cls d H) (tCons (tVar 1) tNil)) tNext)
theorem rd_is_integer {v : D} {g} (hn : noScr v = true) : Run K E (t_is_integer K C T E) ⟨[.dat v], g⟩ (.rt (.bool (isInt v)) ⟨[.dat v], g⟩) := by
  refine run_ret (Ev.to (ev_and (ev_isi (ev_var rfl) kit_int hn _ rfl) fun _ => ev_not (ev_isi (ev_var rfl) kit_bool hn _ rfl)) ?_)
  cases v <;> rfl
theorem rd_is_in {v : D} {lo hi : Int} {g} (hn : noScr v = true) : Run K E (t_is_in K C T E) ⟨[.dat v, .dat (.int lo), .dat (.int hi)], g⟩ (.rt (.bool (isIn v lo hi)) ⟨[.dat v, .dat (.int lo), .dat (.int hi)], g⟩) := by
  refine run_ret ?_
  cases v with
  | int n => exact Ev.to (ev_and (a := true) (ev_call (ea_cons (ev_var rfl) ea_nil) (.mk hn)) fun _ => ev_chainI (ev_var rfl) (ev_var rfl) (ev_var rfl)) rfl
  | none => exact ev_andF (ev_call (ea_cons (ev_var rfl) ea_nil) (.mk hn))
  | bool b => exact ev_andF (ev_call (ea_cons (ev_var rfl) ea_nil) (.mk hn))
  | str b => exact ev_andF (ev_call (ea_cons (ev_var rfl) ea_nil) (.mk hn))
  | list b => exact ev_andF (ev_call (ea_cons (ev_var rfl) ea_nil) (.mk hn))
  | tuple b => exact ev_andF (ev_call (ea_cons (ev_var rfl) ea_nil) (.mk hn))
  | dict b => exact ev_andF (ev_call (ea_cons (ev_var rfl) ea_nil) (.mk hn))
theorem rd_demand_ok {b : Bool} {x : D} {g} (h : b = true) : Run K E (t_demand K C T E) ⟨[.dat (.bool b), .dat x], g⟩ (.nx ⟨[.dat (.bool b), .dat x], g⟩) := by
  subst h
  exact run_no (et_not (b := true) (et_B (ev_var rfl))) run_next
theorem rd_demand_no {b : Bool} {x : D} {g} (h : b = false) : Run K E (t_demand K C T E) ⟨[.dat (.bool b), .dat x], g⟩ (.ex (C "BadArgument") "name" x ⟨[.dat (.bool b), .dat x], g⟩) := by
  subst h
  exact run_yes (et_not (b := false) (et_B (ev_var rfl))) (run_raise (ea_cons (ev_var rfl) ea_nil) fun _ _ _ _ h => h)
inductive R__law_roll (K : PySem.W.Frag) (C : Str → Addr) (T : List (Addr × Str)) : FR
  | mk {v d t n g} (hd : DOk n d) (hn : n < 1000000000) (h0 : 0 < t) (h1 : t < 1073741824) : R__law_roll K C T ⟨[.res (lstR K (some v) (dl d)), .dat (.int t)], g⟩ (.rt (.int (rv d t)) ⟨[.res (lstR K (some v) (dl (CM.rd d t))), .dat (.int t)], g⟩)
inductive R__law_pick (K : PySem.W.Frag) (C : Str → Addr) (T : List (Addr × Str)) : FR
  | mk {v d xs n g} (hd : DOk n d) (hn : n < 1000000000) (h0 : xs ≠ []) (h1 : xs.length < 1073741824) : R__law_pick K C T ⟨[.res (lstR K (some v) (dl d)), .dat (.list xs)], g⟩ (.rt (pick d xs) ⟨[.res (lstR K (some v) (dl (CM.rd d xs.length))), .dat (.list xs)], g⟩)
def t__law_roll (K : PySem.W.Frag) (C : Str → Addr) (T : List (Addr × Str)) (E : XK) : TS :=
  (tSeq (tIfS (tTest (tOp (rD2 K ordOk gtD) (tOp (rD2 K ixOk ixD) (tVar 0) (tC (.int 0))) (tC (.int 0)))) (tSeq (tAsg (tOp (rD2 K modOk modD) (tCB (rDn K intOk intD) (tCons (tOp (rD2 K ixOk ixD) (tVar 0) (tC (.int 0))) tNil)) (tVar 1)) (gName 2))
    (tSeq (tAsg (tOp (rD2 K divOk divD) (tOp (rD2 K ixOk ixD) (tVar 0) (tC (.int 0))) (tVar 1)) (gSub (tVar 0) (tC (.int 0)) rSetL))
    (tRet (tVar 2)))) tNext)
    (tSeq (tAsg (tOp (rD2 K addOk addD) (tOp (rD2 K ixOk ixD) (tVar 0) (tC (.int 2))) (tC (.int 1))) (gSub (tVar 0) (tC (.int 2)) rSetL))
    (tSeq (tAsg (tOp (rD2 K modOk modD) (tCB (rDn K intOk intD) (tCons (tOp (rD2 K addOk addD) (tOp (rD2 K addOk addD) (tOp (rD2 K mulOkV mulD) (tOp (rD2 K ixOk ixD) (tVar 0) (tC (.int 1))) (tC (.int 52501))) (tOp (rD2 K mulOkV mulD) (tOp (rD2 K mulOkV mulD) (tOp (rD2 K ixOk ixD) (tVar 0) (tC (.int 2))) (tOp (rD2 K ixOk ixD) (tVar 0) (tC (.int 2)))) (tC (.int 1009)))) (tC (.int 77))) tNil)) (tC (.int 2147480009))) (gSub (tVar 0) (tC (.int 1)) rSetL))
    (tRet (tOp (rD2 K modOk modD) (tCB (rDn K intOk intD) (tCons (tOp (rD2 K divOk divD) (tOp (rD2 K ixOk ixD) (tVar 0) (tC (.int 1))) (tC (.int 211))) tNil)) (tVar 1))))))
def t__law_pick (K : PySem.W.Frag) (C : Str → Addr) (T : List (Addr × Str)) (E : XK) : TS :=
  (tRet (tOp (rD2 K ixOk ixD) (tVar 1) (tCall (spF K (R__law_roll K C T)) [] E (tCons (tVar 0) (tCons (tCB (rDn K lenOk lenD) (tCons (tVar 1) tNil)) tNil)))))
theorem rd__law_roll {ov : Option V} {d : Dice} {t n : Int} {g} (hd : DOk n d) (hn : n < 1000000000) (h0 : 0 < t) (h1 : t < 1073741824) :
    ∃ s, Run K E (t__law_roll K C T E) ⟨[.res (lstR K ov (dl d)), .dat (.int t), .unk], g⟩ (.rt (.int (rv d t)) s) ∧ s.s[0]? = some (.res (lstR K ov (dl (CM.rd d t)))) ∧ s.g = g := by
  have := hd.b0; have := hd.b1; have := hd.c0; have := hd.c1
  obtain ⟨a, b, c⟩ := d
  simp only [dl] at *
  by_cases ha : 0 < a
  · have e1 : CM.rd ⟨a, b, c⟩ t = ⟨a / t, b, c⟩ := by unfold CM.rd; rw [if_pos ha]
    have e2 : rv ⟨a, b, c⟩ t = a % t := by unfold rv; rw [if_pos ha]
    rw [e1, e2]
    apply Exists.intro
    refine ⟨?_, ?_, ?_⟩
    ·
      apply run_end
      · apply run_yes
        · walk_at "tb"
        walk_at "s"
        walk_at "s"
        walk_at "st"
      · rfl
    · rfl
    · rfl
  · have e1 : CM.rd ⟨a, b, c⟩ t = ⟨a, (b * 52501 + (c + 1) * (c + 1) * 1009 + 77) % 2147480009, c + 1⟩ := by unfold CM.rd; rw [if_neg ha]
    have e2 : rv ⟨a, b, c⟩ t = (b * 52501 + (c + 1) * (c + 1) * 1009 + 77) % 2147480009 / 211 % t := by unfold rv; rw [if_neg ha, e1]
    rw [e1, e2]
    apply Exists.intro
    refine ⟨?_, ?_, ?_⟩
    ·
      walk_at "no"
      walk_at "s"
      walk_at "s"
      walk_at "st"
    · rfl
    · rfl
theorem rd__law_pick {v : V} {d : Dice} {xs : List D} {n : Int} {g} (hd : DOk n d) (hn : n < 1000000000) (h0 : xs ≠ []) (h1 : xs.length < 1073741824) :
    Run K E (t__law_pick K C T E) ⟨[.res (lstR K (some v) (dl d)), .dat (.list xs)], g⟩ (.rt (pick d xs) ⟨[.res (lstR K (some v) (dl (CM.rd d xs.length))), .dat (.list xs)], g⟩) := by
  have hl : 0 < xs.length := List.length_pos_iff.mpr h0
  refine run_ret (ev_ixL (ev_var rfl) (ev_callL rfl (ea_cons (ev_lenL (ea_cons (ev_var rfl) ea_nil)) ea_nil) rfl fun v => .mk hd hn (by omega) (by omega)) ?_)
  exact pick_at h0
end CM

namespace CM
open PySem PySem.Spec PyProof.Rows L2 DL
variable {K : PySem.W.Frag} {C : Str → Addr} {T : List (Addr × Str)} {E : XK}
def own (ns : List Int) (spot : Int) : Int := if spot < ns.length then ns.getD spot.toNat 0 else 733 * spot + 29
def mix (m cell : Int) : Int := (m * 48271 + cell % 2147480009) % 2147480009
def cells (ns : List Int) (spot : Int) : List Int := ns.take 6 ++ [own ns spot]
def mixed (ns : List Int) (spot : Int) : Int := (cells ns spot).foldl mix (910003 + 7907 * spot)
def dice0 (ns : List Int) (spot : Int) : Dice := ⟨if own ns spot < 0 ∨ 10 ^ 16 ≤ own ns spot then (if own ns spot < 0 then - own ns spot else own ns spot) else 0, mixed ns spot, 0⟩
theorem mix_ok (m cell : Int) : 0 ≤ mix m cell ∧ mix m cell < 2147480009 := ⟨Int.emod_nonneg _ (by decide), Int.emod_lt_of_pos _ (by decide)⟩
theorem dice0_ok (ns : List Int) (spot : Int) : DOk 0 (dice0 ns spot) := by
  have h : 0 ≤ mixed ns spot ∧ mixed ns spot < 2147480009 := by
    unfold mixed cells
    rw [List.foldl_append]
    exact mix_ok _ _
  exact ⟨h.1, h.2, Int.le_refl _, Int.le_refl _⟩
inductive R__law_dice (K : PySem.W.Frag) (C : Str → Addr) (T : List (Addr × Str)) : FR
  | mk {ns spot g} (h : 0 ≤ spot) : R__law_dice K C T ⟨[.dat (scrD ns), .dat (.int spot)], g⟩ (.ro (lstR K none (dl (dice0 ns spot))) ⟨[.dat (scrD ns), .dat (.int spot)], g⟩)
def t__law_dice (K : PySem.W.Frag) (C : Str → Addr) (T : List (Addr × Str)) (E : XK) : TS :=
  (tSeq (tAsg (tIf (tTest (tOp (rD2 K ltXOk ltXD) (tVar 1) (tCB (rDn K lenOk lenD) (tCons (tVar 0) tNil)))) (tOp (rD2 K ixOk ixD) (tVar 0) (tVar 1)) (tOp (rD2 K addOk addD) (tOp (rD2 K mulOkV mulD) (tC (.int 733)) (tVar 1)) (tC (.int 29)))) (gName 2))
    (tSeq (tAsg (tOp (rD2 K addOk addD) (tC (.int 910003)) (tOp (rD2 K mulOkV mulD) (tC (.int 7907)) (tVar 1))) (gName 3))
    (tSeq (tFor (iSeq K (tOp (rD2 K addOk addD) (tSl (rSlU K) (tVar 0) tNoPart (tPart (tC (.int 6)))) (tLst (tCons (tVar 2) tNil)))) (gName 4) (tAsg (tOp (rD2 K modOk modD) (tCB (rDn K intOk intD) (tCons (tOp (rD2 K addOk addD) (tOp (rD2 K mulOkV mulD) (tVar 3) (tC (.int 48271))) (tOp (rD2 K modOk modD) (tCB (rDn K intOk intD) (tCons (tVar 4) tNil)) (tC (.int 2147480009)))) tNil)) (tC (.int 2147480009))) (gName 3)))
    (tRet (tLst (tCons (tIf (tOr (tTest (tOp (rD2 K ltXOk ltXD) (tVar 2) (tC (.int 0)))) (tTest (tOp (rD2 K ordOk geD) (tVar 2) (tOp (rD2 K powOk powD) (tC (.int 10)) (tC (.int 16)))))) (tCB (rDn K absOk absD) (tCons (tVar 2) tNil)) (tC (.int 0))) (tCons (tVar 3) (tCons (tC (.int 0)) tNil))))))))
theorem rd__law_dice {ns : List Int} {spot : Int} {g} (h : 0 ≤ spot) :
    ∃ s, Run K E (t__law_dice K C T E) ⟨[.dat (scrD ns), .dat (.int spot), .unk, .unk, .unk], g⟩ (.ro (lstR K none (dl (dice0 ns spot))) s) ∧ s.g = g := by
  apply Exists.intro
  apply And.intro
  · apply run_seq
    · apply run_asg (d := .int (own ns spot))
      refine ev_ifP (by walk_at "et") (fun hb => ?_) (fun hb => ?_)
      · refine ev_ixS (ev_var rfl) (ev_var rfl) ?_
        have hb : spot < ns.length := by simpa using hb
        have hi : spot.toNat < ns.length := by omega
        unfold own atI ixN
        rw [if_pos h, if_pos hb, if_pos hb]
        show ns[spot.toNat]? = _
        rw [List.getD_eq_getElem?_getD, List.getElem?_eq_getElem hi]
        rfl
      · have hb : ¬ spot < ns.length := by simpa using hb
        refine Ev.to (by walk_at "ev") ?_
        unfold own
        rw [if_neg hb]
    walk_at "d"
    walk_at "s"
    apply run_seq
    · have hw : ∀ s, s = (⟨[.dat (scrD ns), .dat (.int spot), .dat (.int (own ns spot)), .dat (.int (910003 + 7907 * spot)), .unk], g⟩ : S) → IterD K (iSeq K (tOp (rD2 K addOk addD) (tSl (rSlU K) (tVar 0) tNoPart (tPart (tC (.int 6)))) (tLst (tCons (tVar 2) tNil)))) s ((cells ns spot).map PyData.int) s := by
        intro s hs
        subst hs
        refine it_seq (d := .list ((cells ns spot).map PyData.int)) ?_ rfl
        refine Ev.to (ev_addL (ev_slS (ev_var rfl) ep_none (ep_some ev_int)) (ev_lst (ea_cons (ev_var rfl) ea_nil) (by walk_at "side")) ?_) ?_
        · rw [cut_to (by decide), List.length_take, List.length_map]
          have : (6 : Int).toNat = 6 := rfl
          rw [this, List.length_singleton, sizeLine_eq]
          omega
        · rw [cut_to (by decide), ← List.map_take]
          simp [cells]
      refine run_for (fun i => ⟨[.dat (scrD ns), .dat (.int spot), .dat (.int (own ns spot)), .dat (.int (((cells ns spot).take i).foldl mix (910003 + 7907 * spot))), .unk], g⟩) (hw _ rfl) (SLe.refl _) fun i d hd => ?_
      obtain ⟨c, hc, rfl⟩ := map_at hd
      refine ⟨_, tg_name, ?_⟩
      walk_at "d"
      rw [fold_at hc]
      walk_at "le"
    rw [List.length_map, List.take_length]
    apply run_retO
    apply eo_lst
    · refine ea_cons (d := .int (dice0 ns spot).a) (?_ : Ev K _ ⟨[.dat (scrD ns), .dat (.int spot), .dat (.int (own ns spot)), .dat (.int (mixed ns spot)), .unk], g⟩ _ ⟨[.dat (scrD ns), .dat (.int spot), .dat (.int (own ns spot)), .dat (.int (mixed ns spot)), .unk], g⟩) (by walk_at "ea")
      by_cases h1 : own ns spot < 0
      · refine Ev.to (ev_ifT (by walk_at "tb") (by walk_at "ev")) ?_
        unfold dice0; simp [h1]
      · by_cases h2 : 10 ^ 16 ≤ own ns spot
        · refine Ev.to (ev_ifT (EvT.to (by walk_at "et") ?_) (by walk_at "ev")) ?_
          · simp [h1]; exact h2
          · unfold dice0; simp only [h1, h2, if_true, if_false, or_true, or_false]
        · refine Ev.to (ev_ifF (EvT.to (by walk_at "et") ?_) (by walk_at "ev")) ?_
          · simp [h1]; omega
          · unfold dice0; simp only [h1, h2, if_true, if_false, or_true, or_false]
    · show 3 ≤ sizeLine; decide
  · rfl
end CM

namespace CM
open PySem PySem.Spec PyProof.Rows L2 DL
variable {K : PySem.W.Frag} {C : Str → Addr} {T : List (Addr × Str)} {E : XK}
inductive R__law_l_choices (K : PySem.W.Frag) (C : Str → Addr) (T : List (Addr × Str)) : FR
  | mk {v d n g} (hd : DOk n d) (hn : n < 100000) : R__law_l_choices K C T ⟨[.res (lstR K (some v) (dl d))], g⟩ (.rt (plD (chP d)) ⟨[.res (lstR K (some v) (dl (chD d 15)))], g⟩)
inductive R__law_l_wide (K : PySem.W.Frag) (C : Str → Addr) (T : List (Addr × Str)) : FR
  | mk {v d n g} (hd : DOk n d) (hn : n < 100000) : R__law_l_wide K C T ⟨[.res (lstR K (some v) (dl d))], g⟩ (.rt (plD (wdP d)) ⟨[.res (lstR K (some v) (dl (wdD d 19)))], g⟩)
def t__law_l_choices (K : PySem.W.Frag) (C : Str → Addr) (T : List (Addr × Str)) (E : XK) : TS :=
  (tSeq (tAsg (tDisp [((tC (.str "rows")), (tCall (spF K (R__law_pick K C T)) [] E (tCons (tVar 0) (tCons (tLst (tCons (tC (.int 1)) (tCons (tC (.int 2)) (tCons (tC (.int 2)) (tCons (tC (.int 3)) tNil))))) tNil)))), ((tC (.str "lamps")), (tOp (rD2 K addOk addD) (tC (.int 1)) (tCall (spF K (R__law_roll K C T)) [] E (tCons (tVar 0) (tCons (tC (.int 3)) tNil))))), ((tC (.str "crews")), (tOp (rD2 K addOk addD) (tC (.int 1)) (tCall (spF K (R__law_roll K C T)) [] E (tCons (tVar 0) (tCons (tC (.int 3)) tNil))))), ((tC (.str "work")), (tOp (rD2 K addOk addD) (tC (.int 1)) (tCall (spF K (R__law_roll K C T)) [] E (tCons (tVar 0) (tCons (tC (.int 5)) tNil)))))]) (gName 1))
    (tSeq (tAsg (tOp (rD2 K addOk addD) (tC (.int 1)) (tCall (spF K (R__law_roll K C T)) [] E (tCons (tVar 0) (tCons (tC (.int 5)) tNil)))) (gSub (tVar 1) (tC (.str "every")) rSetD))
    (tSeq (tAsg (tCall (spF K (R__law_roll K C T)) [] E (tCons (tVar 0) (tCons (tC (.int 14)) tNil))) (gSub (tVar 1) (tC (.str "early")) rSetD))
    (tSeq (tAsg (tOp (rD2 K addOk addD) (tC (.int 1)) (tCall (spF K (R__law_roll K C T)) [] E (tCons (tVar 0) (tCons (tC (.int 3)) tNil)))) (gSub (tVar 1) (tC (.str "sync")) rSetD))
    (tSeq (tAsg (tOp (rD2 K addOk addD) (tC (.int 1)) (tCall (spF K (R__law_roll K C T)) [] E (tCons (tVar 0) (tCons (tC (.int 4)) tNil)))) (gSub (tVar 1) (tC (.str "burst")) rSetD))
    (tSeq (tAsg (tOp (rD2 K addOk addD) (tC (.int 1)) (tCall (spF K (R__law_roll K C T)) [] E (tCons (tVar 0) (tCons (tC (.int 5)) tNil)))) (gSub (tVar 1) (tC (.str "gap")) rSetD))
    (tSeq (tAsg (tCall (spF K (R__law_pick K C T)) [] E (tCons (tVar 0) (tCons (tLst (tCons (tC (.int 0)) (tCons (tC (.int 0)) (tCons (tC (.int 1)) (tCons (tC (.int 1)) (tCons (tC (.int 2)) (tCons (tC (.int 3)) tNil))))))) tNil))) (gSub (tVar 1) (tC (.str "trips")) rSetD))
    (tSeq (tAsg (tCall (spF K (R__law_roll K C T)) [] E (tCons (tVar 0) (tCons (tC (.int 3)) tNil))) (gSub (tVar 1) (tC (.str "drift")) rSetD))
    (tSeq (tAsg (tCall (spF K (R__law_roll K C T)) [] E (tCons (tVar 0) (tCons (tC (.int 6)) tNil))) (gSub (tVar 1) (tC (.str "cloud")) rSetD))
    (tSeq (tAsg (tCall (spF K (R__law_roll K C T)) [] E (tCons (tVar 0) (tCons (tC (.int 14)) tNil))) (gSub (tVar 1) (tC (.str "most")) rSetD))
    (tSeq (tAsg (tCall (spF K (R__law_roll K C T)) [] E (tCons (tVar 0) (tCons (tC (.int 22)) tNil))) (gSub (tVar 1) (tC (.str "fixed")) rSetD))
    (tSeq (tAsg (tCall (spF K (R__law_roll K C T)) [] E (tCons (tVar 0) (tCons (tC (.int 30)) tNil))) (gSub (tVar 1) (tC (.str "spare")) rSetD))
    (tRet (tVar 1))))))))))))))
def t__law_l_wide (K : PySem.W.Frag) (C : Str → Addr) (T : List (Addr × Str)) (E : XK) : TS :=
  (tSeq (tAsg (tDisp [((tC (.str "rows")), (tOp (rD2 K addOk addD) (tC (.int 1)) (tCall (spF K (R__law_roll K C T)) [] E (tCons (tVar 0) (tCons (tC (.int 3)) tNil))))), ((tC (.str "lamps")), (tOp (rD2 K addOk addD) (tC (.int 1)) (tCall (spF K (R__law_roll K C T)) [] E (tCons (tVar 0) (tCons (tC (.int 4)) tNil))))), ((tC (.str "crews")), (tOp (rD2 K addOk addD) (tC (.int 1)) (tCall (spF K (R__law_roll K C T)) [] E (tCons (tVar 0) (tCons (tC (.int 4)) tNil))))), ((tC (.str "work")), (tOp (rD2 K addOk addD) (tC (.int 1)) (tCall (spF K (R__law_roll K C T)) [] E (tCons (tVar 0) (tCons (tC (.int 12)) tNil)))))]) (gName 1))
    (tSeq (tAsg (tOp (rD2 K addOk addD) (tC (.int 1)) (tCall (spF K (R__law_roll K C T)) [] E (tCons (tVar 0) (tCons (tC (.int 12)) tNil)))) (gSub (tVar 1) (tC (.str "every")) rSetD))
    (tSeq (tAsg (tCall (spF K (R__law_roll K C T)) [] E (tCons (tVar 0) (tCons (tC (.int 61)) tNil))) (gSub (tVar 1) (tC (.str "early")) rSetD))
    (tSeq (tAsg (tOp (rD2 K addOk addD) (tC (.int 1)) (tCall (spF K (R__law_roll K C T)) [] E (tCons (tVar 0) (tCons (tC (.int 10)) tNil)))) (gSub (tVar 1) (tC (.str "sync")) rSetD))
    (tSeq (tAsg (tOp (rD2 K addOk addD) (tC (.int 1)) (tCall (spF K (R__law_roll K C T)) [] E (tCons (tVar 0) (tCons (tC (.int 6)) tNil)))) (gSub (tVar 1) (tC (.str "burst")) rSetD))
    (tSeq (tAsg (tOp (rD2 K addOk addD) (tC (.int 1)) (tCall (spF K (R__law_roll K C T)) [] E (tCons (tVar 0) (tCons (tC (.int 12)) tNil)))) (gSub (tVar 1) (tC (.str "gap")) rSetD))
    (tSeq (tAsg (tCall (spF K (R__law_roll K C T)) [] E (tCons (tVar 0) (tCons (tC (.int 4)) tNil))) (gSub (tVar 1) (tC (.str "trips")) rSetD))
    (tSeq (tAsg (tCall (spF K (R__law_roll K C T)) [] E (tCons (tVar 0) (tCons (tC (.int 6)) tNil))) (gSub (tVar 1) (tC (.str "drift")) rSetD))
    (tSeq (tAsg (tCall (spF K (R__law_roll K C T)) [] E (tCons (tVar 0) (tCons (tC (.int 31)) tNil))) (gSub (tVar 1) (tC (.str "cloud")) rSetD))
    (tSeq (tAsg (tCall (spF K (R__law_pick K C T)) [] E (tCons (tVar 0) (tCons (tLst (tCons (tCall (spF K (R__law_roll K C T)) [] E (tCons (tVar 0) (tCons (tC (.int 101)) tNil))) (tCons (tCall (spF K (R__law_roll K C T)) [] E (tCons (tVar 0) (tCons (tC (.int 30)) tNil))) tNil))) tNil))) (gSub (tVar 1) (tC (.str "most")) rSetD))
    (tSeq (tAsg (tCall (spF K (R__law_pick K C T)) [] E (tCons (tVar 0) (tCons (tLst (tCons (tCall (spF K (R__law_roll K C T)) [] E (tCons (tVar 0) (tCons (tC (.int 101)) tNil))) (tCons (tCall (spF K (R__law_roll K C T)) [] E (tCons (tVar 0) (tCons (tC (.int 40)) tNil))) tNil))) tNil))) (gSub (tVar 1) (tC (.str "fixed")) rSetD))
    (tSeq (tAsg (tCall (spF K (R__law_roll K C T)) [] E (tCons (tVar 0) (tCons (tC (.int 201)) tNil))) (gSub (tVar 1) (tC (.str "spare")) rSetD))
    (tRet (tVar 1))))))))))))))
theorem put1 {ds : List (D × D)} {k : Str} {d : D} (h : dlook ds (.inr k) = none) : dput ds (.inr k) d = ds ++ [(.str k, d)] := by
  unfold dput
  rw [h]
  rfl
theorem ev_pickD {d : Dice} {n : Int} {s : S} {xs : List D} {ta : TE} {j : Nat} {ov ov' : Option V} {d0 : Dice} {s1 : S} {x : D} (hi : s.s[j]? = some (.res (lstR K ov (dl d0)))) (ha : Ev K ta s (.list xs) s1) (hi1 : s1.s[j]? = some (.res (lstR K ov' (dl d)))) (hd : DOk n d) (hn : n < 1000000000) (h0 : xs ≠ []) (h1 : xs.length < 1073741824) (hx : pick d xs = x) :
    Ev K (tCall (spF K (R__law_pick K C T)) [] E (tCons (tVar j) (tCons ta tNil))) s x (s1.set j (.res (lstR K ov' (dl (CM.rd d xs.length))))) :=
  (ev_callL hi (ea_cons ha ea_nil) hi1 fun v => .mk hd hn h0 h1).to hx
theorem ev_rollD {d : Dice} {n : Int} {s : S} {t : Int} {ta : TE} {j : Nat} {ov ov' : Option V} {d0 : Dice} {s1 : S} {x : Int} (hi : s.s[j]? = some (.res (lstR K ov (dl d0)))) (ha : Ev K ta s (.int t) s1) (hi1 : s1.s[j]? = some (.res (lstR K ov' (dl d)))) (hd : DOk n d) (hn : n < 1000000000) (h0 : 0 < t) (h1 : t < 1073741824) (hx : rv d t = x) :
    Ev K (tCall (spF K (R__law_roll K C T)) [] E (tCons (tVar j) (tCons ta tNil))) s (.int x) (s1.set j (.res (lstR K ov' (dl (CM.rd d t))))) :=
  (ev_callL hi (ea_cons ha ea_nil) hi1 fun v => .mk hd hn h0 h1).to (by rw [hx])
theorem rd__law_l_choices {v : V} {d : Dice} {n : Int} {g} (hd : DOk n d) (hn : n < 100000) :
    Run K E (t__law_l_choices K C T E) ⟨[.res (lstR K (some v) (dl d)), .unk], g⟩ (.rt (plD (chP d)) ⟨[.res (lstR K (some v) (dl (chD d 15))), .unk], g⟩) := by
  have ok := fun k => chD_ok hd k
  have st : ∀ (k : Nat) (t : Int) (ds : List (D × D)) {x : Int}, k ≤ 15 → 0 < t → t < 1000 → CM.rd (chD d k) t = chD d (k + 1) → rv (chD d k) t = x →
      Ev K (tCall (spF K (R__law_roll K C T)) [] E (tCons (tVar 0) (tCons (tC (.int t)) tNil))) ⟨[.res (lstR K (some v) (dl (chD d k))), .res (dctR K none ds)], g⟩ (.int x) ⟨[.res (lstR K (some v) (dl (chD d (k + 1)))), .res (dctR K none ds)], g⟩ := by
    intro k t ds x hk h0 h1 e ex
    have := ev_rollD (K := K) (C := C) (T := T) (E := E) (j := 0) (s := ⟨[.res (lstR K (some v) (dl (chD d k))), .res (dctR K none ds)], g⟩) rfl ev_int rfl (ok k) (by omega) h0 (by omega) ex
    rw [e] at this
    exact this
  have st0 : ∀ (k : Nat) (t : Int) {x : Int}, k ≤ 15 → 0 < t → t < 1000 → CM.rd (chD d k) t = chD d (k + 1) → rv (chD d k) t = x →
      Ev K (tCall (spF K (R__law_roll K C T)) [] E (tCons (tVar 0) (tCons (tC (.int t)) tNil))) ⟨[.res (lstR K (some v) (dl (chD d k))), .unk], g⟩ (.int x) ⟨[.res (lstR K (some v) (dl (chD d (k + 1)))), .unk], g⟩ := by
    intro k t x hk h0 h1 e ex
    have := ev_rollD (K := K) (C := C) (T := T) (E := E) (j := 0) (s := ⟨[.res (lstR K (some v) (dl (chD d k))), .unk], g⟩) rfl ev_int rfl (ok k) (by omega) h0 (by omega) ex
    rw [e] at this
    exact this
  have l0 := ok 0
  apply run_seq
  · apply run_asgO
    apply eo_disp
    · apply ep_consS
      · exact ev_pickD (d0 := d) (d := d) rfl (by walk_at "ev") rfl hd (by omega) (List.cons_ne_nil _ _) (by decide) pick4.1
      walk_at "d"
      apply ep_consS
      · exact ev_addI ev_int (st0 1 3 (by decide) (by decide) (by decide) rfl rfl)
      apply ep_consS
      · exact ev_addI ev_int (st0 2 3 (by decide) (by decide) (by decide) rfl rfl)
      apply ep_consS
      · exact ev_addI ev_int (st0 3 5 (by decide) (by decide) (by decide) rfl rfl)
      exact ep_nil
    · show 4 ≤ 15; decide
  walk_at "d"
  have e0 : dmerge [] [(.inr "rows", .int (ofInt (pick d [.int 1, .int 2, .int 2, .int 3]))), (.inr "lamps", .int (1 + rv (chD d 1) 3)), (.inr "crews", .int (1 + rv (chD d 2) 3)), (.inr "work", .int (1 + rv (chD d 3) 5))] = (plKV (chP d)).take 4 := by kernel_rfl
  rw [e0]
  have put : ∀ (k : Nat) (nm : Str) (te : TE) (x : Int) (D1 D2 : Dice), k < 15 → dput ((plKV (chP d)).take k) (.inr nm) (.int x) = (plKV (chP d)).take (k + 1) → (∀ ds, Ev K te ⟨[.res (lstR K (some v) (dl D1)), .res (dctR K none ds)], g⟩ (.int x) ⟨[.res (lstR K (some v) (dl D2)), .res (dctR K none ds)], g⟩) →
      Run K E (tAsg te (gSub (tVar 1) (tC (.str nm)) rSetD)) ⟨[.res (lstR K (some v) (dl D1)), .res (dctR K none ((plKV (chP d)).take k))], g⟩ (.nx ⟨[.res (lstR K (some v) (dl D2)), .res (dctR K none ((plKV (chP d)).take (k + 1)))], g⟩) := by
    intro k nm te x D1 D2 hk e h
    have := run_putDS (K := K) (E := E) (k := nm) (i := 1) (h ((plKV (chP d)).take k)) rfl (by rw [List.length_take]; have : 20 ≤ sizeLine := le_size (by decide); omega)
    rw [e] at this
    exact this
  have hok9 := ok 9
  have e9 : CM.rd (chD d 9) ([PyData.int 0, .int 0, .int 1, .int 1, .int 2, .int 3] : List D).length = chD d 10 := rfl
  have l6 : ([PyData.int 0, .int 0, .int 1, .int 1, .int 2, .int 3] : List D).length < 1073741824 := by show 6 < 1073741824; omega
  have x9 : pick (chD d 9) [.int 0, .int 0, .int 1, .int 1, .int 2, .int 3] = .int (chP d).trips := pick6.1
  have p9 : ∀ ds, Ev K (tCall (spF K (R__law_pick K C T)) [] E (tCons (tVar 0) (tCons (tLst (tCons (tC (.int 0)) (tCons (tC (.int 0)) (tCons (tC (.int 1)) (tCons (tC (.int 1)) (tCons (tC (.int 2)) (tCons (tC (.int 3)) tNil))))))) tNil))) ⟨[.res (lstR K (some v) (dl (chD d 9))), .res (dctR K none ds)], g⟩ (.int (chP d).trips) ⟨[.res (lstR K (some v) (dl (chD d 10))), .res (dctR K none ds)], g⟩ := by
    intro ds
    have key := ev_pickD (K := K) (C := C) (T := T) (E := E) (s := ⟨[.res (lstR K (some v) (dl (chD d 9))), .res (dctR K none ds)], g⟩) (j := 0) rfl (ev_lst (ea_cons ev_int (ea_cons ev_int (ea_cons ev_int (ea_cons ev_int (ea_cons ev_int (ea_cons ev_int ea_nil)))))) (le_size (by simp))) rfl hok9 (by omega) (List.cons_ne_nil _ _) l6 x9
    rw [e9] at key
    exact key
  apply run_seq
  · refine put 4 _ _ (chP d).every (chD d 4) (chD d 5) (by decide) ?_ fun ds => ?_
    rotate_left
    · exact ev_addI ev_int (st 4 5 ds (by decide) (by decide) (by decide) rfl rfl)
    · kernel_rfl
  apply run_seq
  · refine put 5 _ _ (chP d).early (chD d 5) (chD d 6) (by decide) ?_ fun ds => ?_
    rotate_left
    · exact st 5 14 ds (by decide) (by decide) (by decide) rfl rfl
    · kernel_rfl
  apply run_seq
  · refine put 6 _ _ (chP d).sync (chD d 6) (chD d 7) (by decide) ?_ fun ds => ?_
    rotate_left
    · exact ev_addI ev_int (st 6 3 ds (by decide) (by decide) (by decide) rfl rfl)
    · kernel_rfl
  apply run_seq
  · refine put 7 _ _ (chP d).burst (chD d 7) (chD d 8) (by decide) ?_ fun ds => ?_
    rotate_left
    · exact ev_addI ev_int (st 7 4 ds (by decide) (by decide) (by decide) rfl rfl)
    · kernel_rfl
  apply run_seq
  · refine put 8 _ _ (chP d).gap (chD d 8) (chD d 9) (by decide) ?_ fun ds => ?_
    rotate_left
    · exact ev_addI ev_int (st 8 5 ds (by decide) (by decide) (by decide) rfl rfl)
    · kernel_rfl
  apply run_seq
  · refine put 9 _ _ (chP d).trips (chD d 9) (chD d 10) (by decide) ?_ fun ds => ?_
    rotate_left
    · exact p9 ds
    · kernel_rfl
  apply run_seq
  · refine put 10 _ _ (chP d).drift (chD d 10) (chD d 11) (by decide) ?_ fun ds => ?_
    rotate_left
    · exact st 10 3 ds (by decide) (by decide) (by decide) rfl rfl
    · kernel_rfl
  apply run_seq
  · refine put 11 _ _ (chP d).cloud (chD d 11) (chD d 12) (by decide) ?_ fun ds => ?_
    rotate_left
    · exact st 11 6 ds (by decide) (by decide) (by decide) rfl rfl
    · kernel_rfl
  apply run_seq
  · refine put 12 _ _ (chP d).most (chD d 12) (chD d 13) (by decide) ?_ fun ds => ?_
    rotate_left
    · exact st 12 14 ds (by decide) (by decide) (by decide) rfl rfl
    · kernel_rfl
  apply run_seq
  · refine put 13 _ _ (chP d).fixed (chD d 13) (chD d 14) (by decide) ?_ fun ds => ?_
    rotate_left
    · exact st 13 22 ds (by decide) (by decide) (by decide) rfl rfl
    · kernel_rfl
  apply run_seq
  · refine put 14 _ _ (chP d).spare (chD d 14) (chD d 15) (by decide) ?_ fun ds => ?_
    rotate_left
    · exact st 14 30 ds (by decide) (by decide) (by decide) rfl rfl
    · kernel_rfl
  refine run_frzD (K := K) (i := 1) (ov := none) (ds := plKV (chP d)) rfl ?_
  walk_at "d"
  refine run_retle (ev_var rfl) ?_
  exact Fo.le (by walk_at "fo")
theorem rd__law_l_wide {v : V} {d : Dice} {n : Int} {g} (hd : DOk n d) (hn : n < 100000) :
    Run K E (t__law_l_wide K C T E) ⟨[.res (lstR K (some v) (dl d)), .unk], g⟩ (.rt (plD (wdP d)) ⟨[.res (lstR K (some v) (dl (wdD d 19))), .unk], g⟩) := by
  have ok : ∀ k : Nat, DOk (n + k) (wdD d k) := fun k => wdD_ok hd k
  have st : ∀ (k : Nat) (t : Int) (y : Sl) {x : Int}, k ≤ 19 → 0 < t → t < 1000 → CM.rd (wdD d k) t = wdD d (k + 1) → rv (wdD d k) t = x →
      Ev K (tCall (spF K (R__law_roll K C T)) [] E (tCons (tVar 0) (tCons (tC (.int t)) tNil))) ⟨[.res (lstR K (some v) (dl (wdD d k))), y], g⟩ (.int x) ⟨[.res (lstR K (some v) (dl (wdD d (k + 1)))), y], g⟩ := by
    intro k t y x hk h0 h1 e ex
    have := ev_rollD (K := K) (C := C) (T := T) (E := E) (j := 0) (s := ⟨[.res (lstR K (some v) (dl (wdD d k))), y], g⟩) rfl ev_int rfl (ok k) (by omega) h0 (by omega) ex
    rw [e] at this
    exact this
  apply run_seq
  · apply run_asgO
    apply eo_disp
    · apply ep_consS
      · exact ev_addI ev_int (st 0 3 .unk (by decide) (by decide) (by decide) rfl rfl)
      apply ep_consS
      · exact ev_addI ev_int (st 1 4 .unk (by decide) (by decide) (by decide) rfl rfl)
      apply ep_consS
      · exact ev_addI ev_int (st 2 4 .unk (by decide) (by decide) (by decide) rfl rfl)
      apply ep_consS
      · exact ev_addI ev_int (st 3 12 .unk (by decide) (by decide) (by decide) rfl rfl)
      exact ep_nil
    · show 4 ≤ 15; decide
  walk_at "d"
  have e0 : dmerge [] [(.inr "rows", .int (1 + rv (wdD d 0) 3)), (.inr "lamps", .int (1 + rv (wdD d 1) 4)), (.inr "crews", .int (1 + rv (wdD d 2) 4)), (.inr "work", .int (1 + rv (wdD d 3) 12))] = (plKV (wdP d)).take 4 := by kernel_rfl
  rw [e0]
  have put : ∀ (k : Nat) (nm : Str) (te : TE) (x : Int) (D1 D2 : Dice), k < 15 → dput ((plKV (wdP d)).take k) (.inr nm) (.int x) = (plKV (wdP d)).take (k + 1) → (∀ ds, Ev K te ⟨[.res (lstR K (some v) (dl D1)), .res (dctR K none ds)], g⟩ (.int x) ⟨[.res (lstR K (some v) (dl D2)), .res (dctR K none ds)], g⟩) →
      Run K E (tAsg te (gSub (tVar 1) (tC (.str nm)) rSetD)) ⟨[.res (lstR K (some v) (dl D1)), .res (dctR K none ((plKV (wdP d)).take k))], g⟩ (.nx ⟨[.res (lstR K (some v) (dl D2)), .res (dctR K none ((plKV (wdP d)).take (k + 1)))], g⟩) := by
    intro k nm te x D1 D2 hk e h
    have := run_putDS (K := K) (E := E) (k := nm) (i := 1) (h ((plKV (wdP d)).take k)) rfl (by rw [List.length_take]; have : 20 ≤ sizeLine := le_size (by decide); omega)
    rw [e] at this
    exact this
  have r := fun (d : Dice) (t : Int) (h : 0 < t) => And.intro (rv0 (d := d) h) (rv1 (d := d) h)
  have b12 := r (wdD d 12) 101 (by decide); have b13 := r (wdD d 13) 30 (by decide); have b15 := r (wdD d 15) 101 (by decide); have b16 := r (wdD d 16) 40 (by decide)
  have q12 : 0 ≤ rv (wdD d 12) 101 ∧ rv (wdD d 12) 101 ≤ 100 := by omega
  have q13 : 0 ≤ rv (wdD d 13) 30 ∧ rv (wdD d 13) 30 ≤ 100 := by omega
  have q15 : 0 ≤ rv (wdD d 15) 101 ∧ rv (wdD d 15) 101 ≤ 100 := by omega
  have q16 : 0 ≤ rv (wdD d 16) 40 ∧ rv (wdD d 16) 40 ≤ 100 := by omega
  have two : ∀ (k : Nat) (t u m x : Int), k ≤ 16 → 0 < t → t < 1000 → 0 < u → u < 1000 → CM.rd (wdD d k) t = wdD d (k + 1) → CM.rd (wdD d (k + 1)) u = wdD d (k + 2) → CM.rd (wdD d (k + 2)) (2 : Nat) = wdD d (k + 3) → pick (wdD d (k + 2)) [.int (rv (wdD d k) t), .int (rv (wdD d (k + 1)) u)] = .int x →
      ∀ ds, Ev K (tCall (spF K (R__law_pick K C T)) [] E (tCons (tVar 0) (tCons (tLst (tCons (tCall (spF K (R__law_roll K C T)) [] E (tCons (tVar 0) (tCons (tC (.int t)) tNil))) (tCons (tCall (spF K (R__law_roll K C T)) [] E (tCons (tVar 0) (tCons (tC (.int u)) tNil))) tNil))) tNil))) ⟨[.res (lstR K (some v) (dl (wdD d k))), .res (dctR K none ds)], g⟩ (.int x) ⟨[.res (lstR K (some v) (dl (wdD d (k + 3)))), .res (dctR K none ds)], g⟩ := by
    intro k t u m x hk t0 t1 u0 u1 e1 e2 e3 ex ds
    have l2 : ([PyData.int (rv (wdD d k) t), .int (rv (wdD d (k + 1)) u)] : List D).length < 1073741824 := by show 2 < 1073741824; omega
    have key := ev_pickD (K := K) (C := C) (T := T) (E := E) (s := ⟨[.res (lstR K (some v) (dl (wdD d k))), .res (dctR K none ds)], g⟩) (j := 0) rfl (ev_lst (ea_cons (st k t (.res (dctR K none ds)) (by omega) t0 t1 e1 rfl) (ea_cons (st (k + 1) u (.res (dctR K none ds)) (by omega) u0 u1 e2 rfl) ea_nil)) (le_size (by simp))) rfl (ok (k + 2)) (by omega) (List.cons_ne_nil _ _) l2 ex
    rw [show CM.rd (wdD d (k + 2)) ([PyData.int (rv (wdD d k) t), .int (rv (wdD d (k + 1)) u)] : List D).length = wdD d (k + 3) from e3] at key
    exact key

  apply run_seq
  · refine put 4 _ _ (wdP d).every (wdD d 4) (wdD d 5) (by decide) ?_ fun ds => ?_
    rotate_left
    · exact ev_addI ev_int (st 4 12 (.res (dctR K none ds)) (by decide) (by decide) (by decide) rfl rfl)
    · kernel_rfl
  apply run_seq
  · refine put 5 _ _ (wdP d).early (wdD d 5) (wdD d 6) (by decide) ?_ fun ds => ?_
    rotate_left
    · exact st 5 61 (.res (dctR K none ds)) (by decide) (by decide) (by decide) rfl rfl
    · kernel_rfl
  apply run_seq
  · refine put 6 _ _ (wdP d).sync (wdD d 6) (wdD d 7) (by decide) ?_ fun ds => ?_
    rotate_left
    · exact ev_addI ev_int (st 6 10 (.res (dctR K none ds)) (by decide) (by decide) (by decide) rfl rfl)
    · kernel_rfl
  apply run_seq
  · refine put 7 _ _ (wdP d).burst (wdD d 7) (wdD d 8) (by decide) ?_ fun ds => ?_
    rotate_left
    · exact ev_addI ev_int (st 7 6 (.res (dctR K none ds)) (by decide) (by decide) (by decide) rfl rfl)
    · kernel_rfl
  apply run_seq
  · refine put 8 _ _ (wdP d).gap (wdD d 8) (wdD d 9) (by decide) ?_ fun ds => ?_
    rotate_left
    · exact ev_addI ev_int (st 8 12 (.res (dctR K none ds)) (by decide) (by decide) (by decide) rfl rfl)
    · kernel_rfl
  apply run_seq
  · refine put 9 _ _ (wdP d).trips (wdD d 9) (wdD d 10) (by decide) ?_ fun ds => ?_
    rotate_left
    · exact st 9 4 (.res (dctR K none ds)) (by decide) (by decide) (by decide) rfl rfl
    · kernel_rfl
  apply run_seq
  · refine put 10 _ _ (wdP d).drift (wdD d 10) (wdD d 11) (by decide) ?_ fun ds => ?_
    rotate_left
    · exact st 10 6 (.res (dctR K none ds)) (by decide) (by decide) (by decide) rfl rfl
    · kernel_rfl
  apply run_seq
  · refine put 11 _ _ (wdP d).cloud (wdD d 11) (wdD d 12) (by decide) ?_ fun ds => ?_
    rotate_left
    · exact st 11 31 (.res (dctR K none ds)) (by decide) (by decide) (by decide) rfl rfl
    · kernel_rfl
  apply run_seq
  · refine put 12 _ _ (wdP d).most (wdD d 12) (wdD d 15) (by decide) ?_ fun ds => ?_
    rotate_left
    · exact two 12 101 30 100 _ (by decide) (by decide) (by decide) (by decide) (by decide) rfl rfl rfl (pick2 (m := 100) q12 q13).1 ds
    · kernel_rfl
  apply run_seq
  · refine put 13 _ _ (wdP d).fixed (wdD d 15) (wdD d 18) (by decide) ?_ fun ds => ?_
    rotate_left
    · exact two 15 101 40 100 _ (by decide) (by decide) (by decide) (by decide) (by decide) rfl rfl rfl (pick2 (m := 100) q15 q16).1 ds
    · kernel_rfl
  apply run_seq
  · refine put 14 _ _ (wdP d).spare (wdD d 18) (wdD d 19) (by decide) ?_ fun ds => ?_
    rotate_left
    · exact st 18 201 (.res (dctR K none ds)) (by decide) (by decide) (by decide) rfl rfl
    · kernel_rfl
  refine run_frzD (K := K) (i := 1) (ov := none) (ds := plKV (wdP d)) rfl ?_
  walk_at "d"
  refine run_retle (ev_var rfl) ?_
  exact Fo.le (by walk_at "fo")
end CM

namespace CM
open PySem PySem.Spec PyProof.Rows L2 DL
variable {K : PySem.W.Frag} {C : Str → Addr} {T : List (Addr × Str)} {E : XK}
/-! ### the crews -/
theorem lmin_key : ∀ (ns : List Int) (a : Int), (ns.foldl min a = a ∨ ns.foldl min a ∈ ns) ∧ ns.foldl min a ≤ a ∧ ∀ y ∈ ns, ns.foldl min a ≤ y := by
  intro ns
  induction ns with
  | nil => intro a; exact ⟨.inl rfl, Int.le_refl _, fun y h => by simp at h⟩
  | cons x ns ih =>
    intro a
    obtain ⟨h1, h2, h3⟩ := ih (min a x)
    refine ⟨?_, by show ns.foldl min (min a x) ≤ a; omega, fun y hy => ?_⟩
    · show ns.foldl min (min a x) = a ∨ ns.foldl min (min a x) ∈ x :: ns
      rcases h1 with h1 | h1
      · rw [h1]
        by_cases c : a ≤ x
        · left; omega
        · right; rw [show min a x = x by omega]; exact List.mem_cons_self
      · right; exact List.mem_cons_of_mem _ h1
    · show ns.foldl min (min a x) ≤ y
      rcases List.mem_cons.mp hy with rfl | hy
      · omega
      · exact h3 y hy
theorem lmin_mem {ns : List Int} (h : ns ≠ []) : lmin ns ∈ ns := by
  cases ns with
  | nil => exact absurd rfl h
  | cons x ns =>
    rcases (lmin_key (x :: ns) x).1 with e | e
    · show (x :: ns).foldl min x ∈ _
      rw [e]; exact List.mem_cons_self
    · exact e
theorem lmin_le {ns : List Int} {y : Int} (h : y ∈ ns) : lmin ns ≤ y := (lmin_key ns (ns.headD 0)).2.2 y h
theorem lmax_key : ∀ (ns : List Int) (a : Int), (ns.foldl max a = a ∨ ns.foldl max a ∈ ns) ∧ a ≤ ns.foldl max a ∧ ∀ y ∈ ns, y ≤ ns.foldl max a := by
  intro ns
  induction ns with
  | nil => intro a; exact ⟨.inl rfl, Int.le_refl _, fun y h => by simp at h⟩
  | cons x ns ih =>
    intro a
    obtain ⟨h1, h2, h3⟩ := ih (max a x)
    refine ⟨?_, by show a ≤ ns.foldl max (max a x); omega, fun y hy => ?_⟩
    · show ns.foldl max (max a x) = a ∨ ns.foldl max (max a x) ∈ x :: ns
      rcases h1 with h1 | h1
      · rw [h1]
        by_cases c : x ≤ a
        · left; omega
        · right; rw [show max a x = x by omega]; exact List.mem_cons_self
      · right; exact List.mem_cons_of_mem _ h1
    · show y ≤ ns.foldl max (max a x)
      rcases List.mem_cons.mp hy with rfl | hy
      · omega
      · exact h3 y hy
theorem lmax_mem {ns : List Int} (h : ns ≠ []) : lmax ns ∈ ns := by
  cases ns with
  | nil => exact absurd rfl h
  | cons x ns =>
    rcases (lmax_key (x :: ns) x).1 with e | e
    · show (x :: ns).foldl max x ∈ _
      rw [e]; exact List.mem_cons_self
    · exact e
theorem lmax_ge {ns : List Int} {y : Int} (h : y ∈ ns) : y ≤ lmax ns := (lmax_key ns (ns.headD 0)).2.2 y h
/-- the first place of the least -/
def mix0 (fs : List Int) : Nat := fs.idxOf (lmin fs)
theorem mix0_at {fs : List Int} (h : fs ≠ []) : fs[mix0 fs]? = some (lmin fs) := by
  unfold mix0
  have := List.idxOf_lt_length_of_mem (lmin_mem h)
  rw [List.getElem?_eq_getElem this, List.getElem_idxOf]
theorem mix0_first {fs : List Int} {m : Nat} (h : m < mix0 fs) : fs[m]? ≠ some (lmin fs) := fun e => by
  unfold mix0 at h
  have := List.not_of_lt_findIdx (p := fun x => x == lmin fs) (xs := fs) (i := m) h
  obtain ⟨hl, he⟩ := List.getElem?_eq_some_iff.mp e
  simp [he] at this
/-- when the next fault is mended -/
def endOf (work : Int) (fs : List Int) (t : Int) : Int := max (lmin fs) t + work
def freeOf (work : Int) (fs : List Int) (t : Int) : List Int := fs.set (mix0 fs) (endOf work fs t)
def stp (work : Int) (p : List Int × List Int) (t : Int) : List Int × List Int := (freeOf work p.1 t, p.2 ++ [endOf work p.1 t])
def fin (crews : Nat) (work : Int) (ts : List Int) : List Int := (ts.foldl (stp work) (List.replicate crews 0, [])).2
theorem stp_len {work : Int} : ∀ (ts : List Int) (p : List Int × List Int), (ts.foldl (stp work) p).1.length = p.1.length ∧ (ts.foldl (stp work) p).2.length = p.2.length + ts.length
  | [], p => ⟨rfl, rfl⟩
  | t :: ts, p => by
    obtain ⟨h1, h2⟩ := stp_len ts (stp work p t)
    refine ⟨h1.trans ?_, h2.trans ?_⟩
    · show (freeOf work p.1 t).length = _
      unfold freeOf; rw [List.length_set]
    · show (p.2 ++ [endOf work p.1 t]).length + ts.length = p.2.length + (t :: ts).length
      simp; omega
theorem fin_len {crews : Nat} {work : Int} {ts : List Int} : (fin crews work ts).length = ts.length := by
  unfold fin
  rw [(stp_len ts _).2]
  simp
def isTick (d : D) : Bool := isIn d 0 10000
def asc (ns : List Int) : Bool := (ns.zip (ns.drop 1)).all fun p => decide (p.1 ≤ p.2)
def areTimes : D → Bool
  | .tuple ds => decide (ds.length ≤ 1000) && (ds.all isTick && asc ((intsOf ds).getD []))
  | _ => false
/-- neither it nor what it holds is the script -/
def deep1 : D → Bool
  | .tuple ds => ds.all noScr
  | .list ds => ds.all noScr
  | d => noScr d
def rdAt (every tick : Int) : Int := -(-tick / every) * every
def keptB (burst gap : Int) (ns : List Int) : Bool := (List.range ns.length).all fun at_ => (List.range ns.length).all fun to => !(decide ((at_ : Int) + burst ≤ to) && decide (ns.getD to 0 - ns.getD at_ 0 < ((to : Int) - at_ + 1 - burst) * gap))
inductive R_is_tick (K : PySem.W.Frag) (C : Str → Addr) (T : List (Addr × Str)) : FR
  | mk {v g} (h : noScr v = true) : R_is_tick K C T ⟨[.dat v], g⟩ (.rt (.bool (isTick v)) ⟨[.dat v], g⟩)
def atMost : D → Int → Bool
  | .tuple ds, n => decide ((ds.length : Int) ≤ n)
  | _, _ => false
inductive R_are_at_most (K : PySem.W.Frag) (C : Str → Addr) (T : List (Addr × Str)) : FR
  | mk {v n g} (h : noScr v = true) : R_are_at_most K C T ⟨[.dat v, .dat (.int n)], g⟩ (.rt (.bool (atMost v n)) ⟨[.dat v, .dat (.int n)], g⟩)
inductive R_are_times (K : PySem.W.Frag) (C : Str → Addr) (T : List (Addr × Str)) : FR
  | mk {v g} (h : noScr v = true) (h1 : deep1 v = true) : R_are_times K C T ⟨[.dat v], g⟩ (.rt (.bool (areTimes v)) ⟨[.dat v], g⟩)
inductive R_serve (K : PySem.W.Frag) (C : Str → Addr) (T : List (Addr × Str)) : FR
  | mk {v fs work tick g} (h : fs ≠ []) : R_serve K C T ⟨[.res (lstR K (some v) (fs.map PyData.int)), .dat (.int work), .dat (.int tick)], g⟩ (.rt (.int (endOf work fs tick)) ⟨[.res (lstR K (some v) ((freeOf work fs tick).map PyData.int)), .dat (.int work), .dat (.int tick)], g⟩)
inductive R_finish_all (K : PySem.W.Frag) (C : Str → Addr) (T : List (Addr × Str)) : FR
  | mk {crews : Nat} {work d ts g} (h : 0 < crews) (h1 : crews ≤ 1000) (hd : seqD d = some (ts.map PyData.int)) (hl : ts.length ≤ 10000) : R_finish_all K C T ⟨[.dat (.int crews), .dat (.int work), .dat d], g⟩ (.rt (.list ((fin crews work ts).map PyData.int)) ⟨[.dat (.int crews), .dat (.int work), .dat d], g⟩)
inductive R_read_at (K : PySem.W.Frag) (C : Str → Addr) (T : List (Addr × Str)) : FR
  | mk {every tick g} (h : 0 < every) (h1 : every < 1000) : R_read_at K C T ⟨[.dat (.int every), .dat (.int tick)], g⟩ (.rt (.int (rdAt every tick)) ⟨[.dat (.int every), .dat (.int tick)], g⟩)
def t_is_tick (K : PySem.W.Frag) (C : Str → Addr) (T : List (Addr × Str)) (E : XK) : TS :=
  (tRet (tCall (spF K (R_is_in K C T)) [] E (tCons (tVar 0) (tCons (tC (.int 0)) (tCons (tC (.int 10000)) tNil)))))
def t_are_at_most (K : PySem.W.Frag) (C : Str → Addr) (T : List (Addr × Str)) (E : XK) : TS :=
  (tRet (tAndV (tCB (rIsi K) (tCons (tVar 0) (tCons (tC (.ty "tuple")) tNil))) (tOp (rD2 K ordOk leD) (tCB (rDn K lenOk lenD) (tCons (tVar 0) tNil)) (tVar 1))))
def t_are_times (K : PySem.W.Frag) (C : Str → Addr) (T : List (Addr × Str)) (E : XK) : TS :=
  (tSeq (tIfS (tOr (tNot (tB (tCall (spF K (R_are_at_most K C T)) [] E (tCons (tVar 0) (tCons (tC (.int 1000)) tNil))))) (tNot (tB (tCB (rDn K allOk allD) (tCons (tLc (iSeq K (tVar 0)) (gName 3) tYes (tCall (spF K (R_is_tick K C T)) [] E0 (tCons (tVar 3) tNil)) [3]) tNil))))) (tRet (tC (.bl false))) tNext)
    (tRet (tCB (rDn K allOk allD) (tCons (tLc (iZipU K (tCons (tVar 0) (tCons (tSl (rSlU K) (tVar 0) (tPart (tC (.int 1))) tNoPart) tNil))) (gTup K 2 (gCons (gName 1) (gCons (gName 2) gNil))) tYes (tOp (rD2 K ordOk leD) (tVar 1) (tVar 2)) [1, 2]) tNil))))
def t_serve (K : PySem.W.Frag) (C : Str → Addr) (T : List (Addr × Str)) (E : XK) : TS :=
  (tSeq (tAsg (tBM K "list" (rIndexD K) (tVar 0) (tCons (tCB (rDn K mmOk minD) (tCons (tVar 0) tNil)) tNil)) (gName 3))
    (tSeq (tAsg (tOp (rD2 K addOk addD) (tCB (rDn K mmOk maxD) (tCons (tOp (rD2 K ixOk ixD) (tVar 0) (tVar 3)) (tCons (tVar 2) tNil))) (tVar 1)) (gSub (tVar 0) (tVar 3) rSetL))
    (tRet (tOp (rD2 K ixOk ixD) (tVar 0) (tVar 3)))))
def t_finish_all (K : PySem.W.Frag) (C : Str → Addr) (T : List (Addr × Str)) (E : XK) : TS :=
  (tSeq (tAsg (tLc (iRng1 (tCons (tVar 0) tNil)) (gName 4) tYes (tC (.int 0)) [4]) (gName 3))
    (tRet (tLc (iSeq K (tVar 2)) (gName 5) tYes (tCall (spF K (R_serve K C T)) [] E0 (tCons (tVar 3) (tCons (tVar 1) (tCons (tVar 5) tNil)))) [5])))
def t_read_at (K : PySem.W.Frag) (C : Str → Addr) (T : List (Addr × Str)) (E : XK) : TS :=
  (tRet (tOp (rD2 K mulOkV mulD) (tUn (rD1 K negOk negD) (tOp (rD2 K divOk divD) (tUn (rD1 K negOk negD) (tVar 1)) (tVar 0))) (tVar 0)))
theorem rd_is_tick {v : D} {g} (hn : noScr v = true) : Run K E (t_is_tick K C T E) ⟨[.dat v], g⟩ (.rt (.bool (isTick v)) ⟨[.dat v], g⟩) := by
  walk_at "st"
theorem rd_are_at_most {v : D} {n : Int} {g} (hn : noScr v = true) : Run K E (t_are_at_most K C T E) ⟨[.dat v, .dat (.int n)], g⟩ (.rt (.bool (atMost v n)) ⟨[.dat v, .dat (.int n)], g⟩) := by
  refine run_ret ?_
  have no : ∀ x, noScr x = true → isiD "tuple" x = false → Ev K (tAndV (tCB (rIsi K) (tCons (tVar 0) (tCons (tC (.ty "tuple")) tNil))) (tOp (rD2 K ordOk leD) (tCB (rDn K lenOk lenD) (tCons (tVar 0) tNil)) (tVar 1))) ⟨[.dat x, .dat (.int n)], g⟩ (.bool false) ⟨[.dat x, .dat (.int n)], g⟩ := fun x h1 h2 => by
    refine ev_andF (ev_isi (ev_var rfl) kit_tuple h1 _ ?_)
    cases x <;> first | rfl | cases h2
  cases v with
  | tuple ds => exact Ev.to (ev_and (a := true) (ev_isi (ev_var rfl) kit_tuple hn _ rfl) fun _ => ev_leI (ev_lenT (ea_cons (ev_var rfl) ea_nil)) (ev_var rfl)) rfl
  | _ => exact no _ hn rfl
theorem rd_serve {ov : Option V} {fs : List Int} {work tick : Int} {g} (h : fs ≠ []) :
    Run K E (t_serve K C T E) ⟨[.res (lstR K ov (fs.map PyData.int)), .dat (.int work), .dat (.int tick), .unk], g⟩ (.rt (.int (endOf work fs tick)) ⟨[.res (lstR K ov ((freeOf work fs tick).map PyData.int)), .dat (.int work), .dat (.int tick), .dat (.int (mix0 fs : Nat))], g⟩) := by
  have hm := mix0_at h
  have hl := (List.getElem?_eq_some_iff.mp hm).1
  have hD : (fs.map PyData.int)[mix0 fs]? = some (.int (lmin fs)) := by rw [List.getElem?_map, hm]; rfl
  have hix : ixN (fs.map PyData.int).length ((mix0 fs : Nat) : Int) = some (mix0 fs) := by
    rw [List.length_map]
    unfold ixN
    rw [if_pos (by omega), if_pos (by omega)]
    rfl
  apply run_seq
  · apply run_asg
    exact ev_indexO rfl (ev_minO rfl h) rfl hm fun m hm => mix0_first hm
  walk_at "d"
  apply run_seq
  · apply run_setL
    · apply ev_addI
      · apply ev_maxI
        · exact ev_ixO rfl (ev_var rfl) rfl (DL.atI_nat hD)
        · exact ev_var rfl
      · exact ev_var rfl
    · rfl
    · exact ev_var rfl
    · rfl
    · exact hix
  walk_at "d"
  have e : (fs.map PyData.int).set (mix0 fs) (.int (max (lmin fs) tick + work)) = (freeOf work fs tick).map PyData.int := by unfold freeOf endOf; rw [List.map_set]
  rw [e]
  apply run_ret
  refine ev_ixO rfl (ev_var rfl) rfl (DL.atI_nat ?_)
  unfold freeOf
  rw [List.getElem?_map, List.getElem?_set_self hl]; rfl
theorem rd_read_at {every tick : Int} {g} (h : 0 < every) (h1 : every < 1000) : Run K E (t_read_at K C T E) ⟨[.dat (.int every), .dat (.int tick)], g⟩ (.rt (.int (rdAt every tick)) ⟨[.dat (.int every), .dat (.int tick)], g⟩) := by
  walk_at "st"
end CM

namespace CM
open PySem PySem.Spec PyProof.Rows L2 DL
variable {K : PySem.W.Frag} {C : Str → Addr} {T : List (Addr × Str)} {E : XK}
theorem ticks_ints : ∀ {ds : List D}, ds.all isTick = true → ∃ ns : List Int, ds = ns.map PyData.int ∧ ∀ n ∈ ns, 0 ≤ n ∧ n ≤ 10000
  | [], _ => ⟨[], rfl, fun n h => by simp at h⟩
  | d :: ds, h => by
    rw [List.all_cons, Bool.and_eq_true] at h
    obtain ⟨ns, e, hn⟩ := ticks_ints h.2
    cases d with
    | int n =>
      have h1 : (decide (0 ≤ n) && decide (n ≤ 10000)) = true := h.1
      simp only [Bool.and_eq_true, decide_eq_true_eq] at h1
      refine ⟨n :: ns, by rw [e]; rfl, fun x hx => ?_⟩
      rcases List.mem_cons.mp hx with rfl | hx
      · exact h1
      · exact hn x hx
    | _ => exact absurd h.1 (by simp [isTick, isIn])
theorem asc_zip (ns : List Int) : zipD (ns.map PyData.int) (cutL (ns.map PyData.int) (some 1) none) = (ns.zip (ns.drop 1)).map fun p => PyData.tuple [.int p.1, .int p.2] := by
  rw [cut_from (by decide)]
  show zipD (ns.map PyData.int) ((ns.map PyData.int).drop 1) = _
  unfold zipD
  rw [← List.map_drop, List.zip_map, List.map_map]
  rfl
theorem rd_are_times {v : D} {g} (hn : noScr v = true) (h1 : deep1 v = true) : Run K E (t_are_times K C T E) ⟨[.dat v, .unk, .unk, .unk], g⟩ (.rt (.bool (areTimes v)) ⟨[.dat v, .unk, .unk, .unk], g⟩) := by
  have out : ∀ x, noScr x = true → atMost x 1000 = false → Run K E (t_are_times K C T E) ⟨[.dat x, .unk, .unk, .unk], g⟩ (.rt (.bool false) ⟨[.dat x, .unk, .unk, .unk], g⟩) := fun x h2 h3 => by
    apply run_end
    · apply run_yes
      · apply et_orT
        refine EvT.to (et_not (et_B (ev_call (ea_cons (ev_var rfl) (ea_cons ev_int ea_nil)) (.mk h2)))) ?_
        rw [h3]; rfl
      · exact run_ret ev_bl
    · rfl
  cases v with
  | tuple ds =>
    by_cases hl : ds.length ≤ 1000
    · have ham : atMost (.tuple ds) 1000 = true := decide_eq_true (by omega)
      have e1 : areTimes (.tuple ds) = (ds.all isTick && asc ((intsOf ds).getD [])) := by show (decide (ds.length ≤ 1000) && _) = _; rw [decide_eq_true hl]; rfl
      rw [e1]
      have hall : EvT K (tB (tCB (rDn K allOk allD) (tCons (tLc (iSeq K (tVar 0)) (gName 3) tYes (tCall (spF K (R_is_tick K C T)) [] E0 (tCons (tVar 3) tNil)) [3]) tNil))) ⟨[.dat (.tuple ds), .unk, .unk, .unk], g⟩ (ds.all isTick) ⟨[.dat (.tuple ds), .unk, .unk, .unk], g⟩ := by
        apply et_B
        refine Ev.to (ev_allL (bs := ds.map isTick) ?_) (by rw [List.all_map]; rfl)
        refine Ev.to (ev_lcM (fun d => .bool (isTick d)) (it_seq (ev_var rfl) rfl) (le_size (by omega)) (by walk_at "nr") fun d hd => ?_) (by rw [List.map_map]; rfl)
        refine ⟨_, by walk_at "tv", ?_, ?_⟩
        · walk_at "w"
          exact Fo.le (by walk_at "fo")
        · walk_at "w"
          exact ev_call (ea_cons (ev_var rfl) ea_nil) (.mk (List.all_eq_true.mp (show ds.all noScr = true from h1) d hd))
      have hor : EvT K (tOr (tNot (tB (tCall (spF K (R_are_at_most K C T)) [] E (tCons (tVar 0) (tCons (tC (.int 1000)) tNil))))) (tNot (tB (tCB (rDn K allOk allD) (tCons (tLc (iSeq K (tVar 0)) (gName 3) tYes (tCall (spF K (R_is_tick K C T)) [] E0 (tCons (tVar 3) tNil)) [3]) tNil))))) ⟨[.dat (.tuple ds), .unk, .unk, .unk], g⟩ (!ds.all isTick) ⟨[.dat (.tuple ds), .unk, .unk, .unk], g⟩ := by
        refine EvT.to (et_or (a := false) (EvT.to (et_not (et_B (ev_call (ea_cons (ev_var rfl) (ea_cons ev_int ea_nil)) (.mk hn)))) (by rw [ham]; rfl)) fun _ => et_not hall) ?_
        simp
      cases ht : ds.all isTick with
      | false =>
        rw [ht] at hor
        apply run_end
        · exact run_yes hor (run_ret ev_bl)
        · rfl
      | true =>
        rw [ht] at hor
        obtain ⟨ns, rfl, _⟩ := ticks_ints ht
        refine run_seq (run_no hor run_next) (run_ret ?_)
        rw [intsOf_map]
        refine Ev.to (ev_allL (bs := (ns.zip (ns.drop 1)).map fun p => decide (p.1 ≤ p.2)) ?_) (by rw [List.all_map]; rfl)
        refine Ev.to (ev_lcM (fun d => match d with | .tuple [.int a, .int b] => .bool (decide (a ≤ b)) | _ => .none) (it_zip (ea_cons (ev_var rfl) (ea_cons (ev_slT (ev_var rfl) (ep_some ev_int) ep_none) ea_nil)) rfl rfl) ?_ (by walk_at "nr") fun d hd => ?_) ?_
        · rw [asc_zip, List.length_map, List.length_zip]
          rw [List.length_map] at hl
          exact le_size (by omega)
        · rw [asc_zip] at hd
          obtain ⟨p, _, rfl⟩ := List.mem_map.mp hd
          refine ⟨_, by walk_at "tv", ?_, ?_⟩
          · walk_at "w"
            exact Fo.le (by walk_at "fo")
          · walk_at "w"
            exact ev_leI (ev_var rfl) (ev_var rfl)
        · rw [asc_zip, List.map_map, List.map_map]; rfl
    · have ham : atMost (.tuple ds) 1000 = false := decide_eq_false (by omega)
      have e1 : areTimes (.tuple ds) = false := by show (decide (ds.length ≤ 1000) && _) = _; rw [decide_eq_false hl]; rfl
      rw [e1]
      exact out _ hn ham
  | _ => exact out _ hn rfl
def fr (crews : Nat) (work : Int) (ts : List Int) : List Int := (ts.foldl (stp work) (List.replicate crews 0, [])).1
theorem fr_len {crews : Nat} {work : Int} {ts : List Int} : (fr crews work ts).length = crews := by
  unfold fr
  rw [(stp_len ts _).1]
  simp
theorem rd_finish_all {crews : Nat} {work : Int} {d : D} {ts : List Int} {g} (h : 0 < crews) (h1 : crews ≤ 1000) (hd : seqD d = some (ts.map PyData.int)) (hl : ts.length ≤ 10000) :
    Run K E (t_finish_all K C T E) ⟨[.dat (.int crews), .dat (.int work), .dat d, .unk, .unk, .unk], g⟩ (.rt (.list ((fin crews work ts).map PyData.int)) ⟨[.dat (.int crews), .dat (.int work), .dat d, .res (lstR K none ((fr crews work ts).map PyData.int)), .unk, .unk], g⟩) := by
  apply run_seq
  · apply run_asgO
    apply eo_lc (fun _ => true) (fun _ => .int 0)
    · exact it_rng1 (n := crews) (ea_cons (ev_var rfl) ea_nil) (by omega)
    · rw [upTo_len]; exact le_size (by omega)
    · walk_at "nr"
    · intro y hy
      refine ⟨_, by walk_at "tv", ?_, et_yes, fun _ => ev_int⟩
      walk_at "w"
      exact Fo.le (by walk_at "fo")
  walk_at "d"
  have e0 : ((DL.upTo 0 (crews : Int).toNat).filter fun _ => true).map (fun _ => PyData.int 0) = (fr crews work []).map PyData.int := by
    rw [List.filter_eq_self.mpr (fun _ _ => rfl), Int.toNat_natCast]
    unfold DL.upTo fr
    rw [List.map_map]
    show _ = (List.replicate crews (0 : Int)).map PyData.int
    rw [List.map_replicate]
    apply List.ext_getElem?
    intro i
    by_cases c : i < crews
    · rw [List.getElem?_map, List.getElem?_range c, List.getElem?_replicate_of_lt c]; rfl
    · rw [List.getElem?_eq_none (by simp; omega), List.getElem?_eq_none (by simp; omega)]
  rw [e0]
  apply run_ret
  have key := ev_lcG (K := K) (te := tCall (spF K (R_serve K C T)) [] E0 (tCons (tVar 3) (tCons (tVar 1) (tCons (tVar 5) tNil)))) (tt := tYes) (g := gName 5) (vs := [5]) (wi := iSeq K (tVar 2))
    (s := ⟨[.dat (.int crews), .dat (.int work), .dat d, .res (lstR K none ((fr crews work []).map PyData.int)), .unk, .unk], g⟩)
    (s' := ⟨[.dat (.int crews), .dat (.int work), .dat d, .res (lstR K none ((fr crews work ts).map PyData.int)), .unk, .unk], g⟩)
    (fun i => ⟨[.dat (.int crews), .dat (.int work), .dat d, .res (lstR K none ((fr crews work (ts.take i)).map PyData.int)), .unk, .unk], g⟩)
    (fun i => (fin crews work (ts.take i)).map PyData.int) (it_seq (ev_var rfl) hd) (Fo.le (by walk_at "fo")) rfl (by rw [List.length_map]; exact le_size (by omega)) (fun i x hx => ?_) ?_
  · rw [List.length_map, List.take_length] at key
    exact key
  · obtain ⟨t, ht, rfl⟩ := map_at hx
    have e1 : fr crews work (ts.take (i + 1)) = freeOf work (fr crews work (ts.take i)) t := by unfold fr; rw [fold_at ht]; rfl
    have e2 : fin crews work (ts.take (i + 1)) = fin crews work (ts.take i) ++ [endOf work (fr crews work (ts.take i)) t] := by unfold fin fr; rw [fold_at ht]; rfl
    rw [e1, e2, List.map_append]
    have hne : fr crews work (ts.take i) ≠ [] := fun z => by
      have := fr_len (crews := crews) (work := work) (ts := ts.take i)
      rw [z] at this
      simp at this
      omega
    refine ⟨_, true, _, by walk_at "tv", et_yes, fun _ => ⟨.int (endOf work (fr crews work (ts.take i)) t), ⟨[.dat (.int crews), .dat (.int work), .dat d, .res (lstR K none ((freeOf work (fr crews work (ts.take i)) t).map PyData.int)), .unk, .dat (.int t)], g⟩, ?_, ?_, rfl⟩, fun z => nomatch z⟩
    · walk_at "w"
      exact ev_callL (s1 := ⟨[.dat (.int crews), .dat (.int work), .dat d, .res (lstR K none ((fr crews work (ts.take i)).map PyData.int)), .unk, .dat (.int t)], g⟩) rfl (ea_cons (ev_var rfl) (ea_cons (ev_var rfl) ea_nil)) rfl fun v => .mk hne
    · walk_at "w"
      exact Fo.le (by walk_at "fo")
  · rw [List.length_map, List.take_length]
    exact Bk.back (by walk_at "bk") rfl
end CM

namespace CM
open PySem PySem.Spec PyProof.Rows L2 DL
variable {K : PySem.W.Frag} {C : Str → Addr} {T : List (Addr × Str)} {E : XK}
def badB (burst gap : Int) (ns : List Int) (at_ to : Int) : Bool := decide (ns.getD to.toNat 0 - ns.getD at_.toNat 0 < (to - at_ + 1 - burst) * gap)
def tos (burst : Int) (ns : List Int) (at_ : Int) : List D := DL.upTo (at_ + burst) ((ns.length : Int) - (at_ + burst)).toNat
def rowB (burst gap : Int) (ns : List Int) (at_ : Int) : Bool := (tos burst ns at_).any fun to => badB burst gap ns at_ (ofInt to)
def kept2 (burst gap : Int) (ns : List Int) : Bool := !(DL.upTo 0 ns.length).any fun at_ => rowB burst gap ns (ofInt at_)
inductive R_are_kept (K : PySem.W.Frag) (C : Str → Addr) (T : List (Addr × Str)) : FR
  | mk {burst gap : Int} {ns : List Int} {g} (h0 : 1 ≤ burst) (h1 : burst ≤ 6) (h2 : 1 ≤ gap) (h3 : gap ≤ 12) (hl : ns.length ≤ 10000) : R_are_kept K C T ⟨[.dat (.int burst), .dat (.int gap), .dat (.tuple (ns.map PyData.int))], g⟩ (.rt (.bool (kept2 burst gap ns)) ⟨[.dat (.int burst), .dat (.int gap), .dat (.tuple (ns.map PyData.int))], g⟩)
inductive R_finishes (K : PySem.W.Frag) (C : Str → Addr) (T : List (Addr × Str)) : FR
  | ok {c : Nat} {w : Int} {ts : List Int} {g} (h0 : 1 ≤ c) (h1 : c ≤ 4) (h2 : 1 ≤ w) (h3 : w ≤ 12) (ht : areTimes (.tuple (ts.map PyData.int)) = true) : R_finishes K C T ⟨[.dat (.int c), .dat (.int w), .dat (.tuple (ts.map PyData.int))], g⟩ (.rt (.tuple ((fin c w ts).map PyData.int)) ⟨[.dat (.int c), .dat (.int w), .dat (.tuple (ts.map PyData.int))], g⟩)
  | no1 {v x y g} (hn : noScr v = true) (h : isIn v 1 4 = false) : R_finishes K C T ⟨[.dat v, .dat x, .dat y], g⟩ (.ex (C "BadArgument") "name" (.str "crews") ⟨[.dat v, .dat x, .dat y], g⟩)
  | no2 {v x y g} (hn : noScr v = true) (h : isIn v 1 4 = true) (hx : noScr x = true) (h1 : isIn x 1 12 = false) : R_finishes K C T ⟨[.dat v, .dat x, .dat y], g⟩ (.ex (C "BadArgument") "name" (.str "work") ⟨[.dat v, .dat x, .dat y], g⟩)
  | no3 {v x y g} (hn : noScr v = true) (h : isIn v 1 4 = true) (hx : noScr x = true) (h1 : isIn x 1 12 = true) (hy : noScr y = true) (hy2 : deep1 y = true) (h2 : areTimes y = false) : R_finishes K C T ⟨[.dat v, .dat x, .dat y], g⟩ (.ex (C "BadArgument") "name" (.str "times") ⟨[.dat v, .dat x, .dat y], g⟩)
inductive R_told_at (K : PySem.W.Frag) (C : Str → Addr) (T : List (Addr × Str)) : FR
  | ok {e : Int} {ts : List Int} {g} (h0 : 1 ≤ e) (h1 : e ≤ 12) (ht : areTimes (.tuple (ts.map PyData.int)) = true) : R_told_at K C T ⟨[.dat (.int e), .dat (.tuple (ts.map PyData.int))], g⟩ (.rt (.tuple ((ts.map (rdAt e)).map PyData.int)) ⟨[.dat (.int e), .dat (.tuple (ts.map PyData.int))], g⟩)
  | no1 {v y g} (hn : noScr v = true) (h : isIn v 1 12 = false) : R_told_at K C T ⟨[.dat v, .dat y], g⟩ (.ex (C "BadArgument") "name" (.str "every") ⟨[.dat v, .dat y], g⟩)
  | no2 {v y g} (hn : noScr v = true) (h : isIn v 1 12 = true) (hy : noScr y = true) (hy2 : deep1 y = true) (h2 : areTimes y = false) : R_told_at K C T ⟨[.dat v, .dat y], g⟩ (.ex (C "BadArgument") "name" (.str "times") ⟨[.dat v, .dat y], g⟩)
inductive R_keeps_gap (K : PySem.W.Frag) (C : Str → Addr) (T : List (Addr × Str)) : FR
  | ok {b w : Int} {ts : List Int} {g} (h0 : 1 ≤ b) (h1 : b ≤ 6) (h2 : 1 ≤ w) (h3 : w ≤ 12) (ht : areTimes (.tuple (ts.map PyData.int)) = true) : R_keeps_gap K C T ⟨[.dat (.int b), .dat (.int w), .dat (.tuple (ts.map PyData.int))], g⟩ (.rt (.bool (kept2 b w ts)) ⟨[.dat (.int b), .dat (.int w), .dat (.tuple (ts.map PyData.int))], g⟩)
  | no1 {v x y g} (hn : noScr v = true) (h : isIn v 1 6 = false) : R_keeps_gap K C T ⟨[.dat v, .dat x, .dat y], g⟩ (.ex (C "BadArgument") "name" (.str "burst") ⟨[.dat v, .dat x, .dat y], g⟩)
  | no2 {v x y g} (hn : noScr v = true) (h : isIn v 1 6 = true) (hx : noScr x = true) (h1 : isIn x 1 12 = false) : R_keeps_gap K C T ⟨[.dat v, .dat x, .dat y], g⟩ (.ex (C "BadArgument") "name" (.str "gap") ⟨[.dat v, .dat x, .dat y], g⟩)
  | no3 {v x y g} (hn : noScr v = true) (h : isIn v 1 6 = true) (hx : noScr x = true) (h1 : isIn x 1 12 = true) (hy : noScr y = true) (hy2 : deep1 y = true) (h2 : areTimes y = false) : R_keeps_gap K C T ⟨[.dat v, .dat x, .dat y], g⟩ (.ex (C "BadArgument") "name" (.str "times") ⟨[.dat v, .dat x, .dat y], g⟩)
/-- how long each fault waits -/
def waits (c : Nat) (w e : Int) (ts : List Int) : List Int := ((fin c w (ts.map (rdAt e))).zip ts).map fun p => p.1 - p.2
inductive R_wait_all (K : PySem.W.Frag) (C : Str → Addr) (T : List (Addr × Str)) : FR
  | mk {c : Nat} {w e : Int} {d : D} {ts : List Int} {g} (h : 0 < c) (h1 : c ≤ 1000) (h2 : 0 < e) (h3 : e < 1000) (hd : seqD d = some (ts.map PyData.int)) (hl : ts.length ≤ 10000) : R_wait_all K C T ⟨[.dat (.int c), .dat (.int w), .dat (.int e), .dat d], g⟩ (.rt (.list ((waits c w e ts).map PyData.int)) ⟨[.dat (.int c), .dat (.int w), .dat (.int e), .dat d], g⟩)
inductive R_waited (K : PySem.W.Frag) (C : Str → Addr) (T : List (Addr × Str)) : FR
  | ok {c : Nat} {w e : Int} {ts : List Int} {g} (h0 : 1 ≤ c) (h1 : c ≤ 4) (h2 : 1 ≤ w) (h3 : w ≤ 12) (h4 : 1 ≤ e) (h5 : e ≤ 12) (ht : areTimes (.tuple (ts.map PyData.int)) = true) : R_waited K C T ⟨[.dat (.int c), .dat (.int w), .dat (.int e), .dat (.tuple (ts.map PyData.int))], g⟩ (.rt (.tuple ((waits c w e ts).map PyData.int)) ⟨[.dat (.int c), .dat (.int w), .dat (.int e), .dat (.tuple (ts.map PyData.int))], g⟩)
  | no1 {v x z y g} (hn : noScr v = true) (h : isIn v 1 4 = false) : R_waited K C T ⟨[.dat v, .dat x, .dat z, .dat y], g⟩ (.ex (C "BadArgument") "name" (.str "crews") ⟨[.dat v, .dat x, .dat z, .dat y], g⟩)
  | no2 {v x z y g} (hn : noScr v = true) (h : isIn v 1 4 = true) (hx : noScr x = true) (h1 : isIn x 1 12 = false) : R_waited K C T ⟨[.dat v, .dat x, .dat z, .dat y], g⟩ (.ex (C "BadArgument") "name" (.str "work") ⟨[.dat v, .dat x, .dat z, .dat y], g⟩)
  | no3 {v x z y g} (hn : noScr v = true) (h : isIn v 1 4 = true) (hx : noScr x = true) (h1 : isIn x 1 12 = true) (hz : noScr z = true) (h2 : isIn z 1 12 = false) : R_waited K C T ⟨[.dat v, .dat x, .dat z, .dat y], g⟩ (.ex (C "BadArgument") "name" (.str "every") ⟨[.dat v, .dat x, .dat z, .dat y], g⟩)
  | no4 {v x z y g} (hn : noScr v = true) (h : isIn v 1 4 = true) (hx : noScr x = true) (h1 : isIn x 1 12 = true) (hz : noScr z = true) (h2 : isIn z 1 12 = true) (hy : noScr y = true) (hy2 : deep1 y = true) (h3 : areTimes y = false) : R_waited K C T ⟨[.dat v, .dat x, .dat z, .dat y], g⟩ (.ex (C "BadArgument") "name" (.str "times") ⟨[.dat v, .dat x, .dat z, .dat y], g⟩)
def t_are_kept (K : PySem.W.Frag) (C : Str → Addr) (T : List (Addr × Str)) (E : XK) : TS :=
  (tSeq (tFor (iRng1 (tCons (tCB (rDn K lenOk lenD) (tCons (tVar 2) tNil)) tNil)) (gName 3) (tFor (iRng2 (tCons (tOp (rD2 K addOk addD) (tVar 3) (tVar 0)) (tCons (tCB (rDn K lenOk lenD) (tCons (tVar 2) tNil)) tNil))) (gName 4) (tIfS (tTest (tOp (rD2 K ltXOk ltXD) (tOp (rD2 K subOk subD) (tOp (rD2 K ixOk ixD) (tVar 2) (tVar 4)) (tOp (rD2 K ixOk ixD) (tVar 2) (tVar 3))) (tOp (rD2 K mulOkV mulD) (tOp (rD2 K subOk subD) (tOp (rD2 K addOk addD) (tOp (rD2 K subOk subD) (tVar 4) (tVar 3)) (tC (.int 1))) (tVar 0)) (tVar 1)))) (tRet (tC (.bl false))) tNext)))
    (tRet (tC (.bl true))))
def t_finishes (K : PySem.W.Frag) (C : Str → Addr) (T : List (Addr × Str)) (E : XK) : TS :=
  (tSeq (tDrop (tCall (spF K (R_demand K C T)) [] E (tCons (tCall (spF K (R_is_in K C T)) [] E (tCons (tVar 0) (tCons (tC (.int 1)) (tCons (tC (.int 4)) tNil)))) (tCons (tC (.str "crews")) tNil))))
    (tSeq (tDrop (tCall (spF K (R_demand K C T)) [] E (tCons (tCall (spF K (R_is_in K C T)) [] E (tCons (tVar 1) (tCons (tC (.int 1)) (tCons (tC (.int 12)) tNil)))) (tCons (tC (.str "work")) tNil))))
    (tSeq (tDrop (tCall (spF K (R_demand K C T)) [] E (tCons (tCall (spF K (R_are_times K C T)) [] E (tCons (tVar 2) tNil)) (tCons (tC (.str "times")) tNil))))
    (tRet (tCB (rDn K seqOk tupD) (tCons (tCall (spF K (R_finish_all K C T)) [] E (tCons (tVar 0) (tCons (tVar 1) (tCons (tVar 2) tNil)))) tNil))))))
def t_told_at (K : PySem.W.Frag) (C : Str → Addr) (T : List (Addr × Str)) (E : XK) : TS :=
  (tSeq (tDrop (tCall (spF K (R_demand K C T)) [] E (tCons (tCall (spF K (R_is_in K C T)) [] E (tCons (tVar 0) (tCons (tC (.int 1)) (tCons (tC (.int 12)) tNil)))) (tCons (tC (.str "every")) tNil))))
    (tSeq (tDrop (tCall (spF K (R_demand K C T)) [] E (tCons (tCall (spF K (R_are_times K C T)) [] E (tCons (tVar 1) tNil)) (tCons (tC (.str "times")) tNil))))
    (tRet (tCB (rDn K seqOk tupD) (tCons (tLc (iSeq K (tVar 1)) (gName 2) tYes (tCall (spF K (R_read_at K C T)) [] E0 (tCons (tVar 0) (tCons (tVar 2) tNil))) [2]) tNil)))))
def t_keeps_gap (K : PySem.W.Frag) (C : Str → Addr) (T : List (Addr × Str)) (E : XK) : TS :=
  (tSeq (tDrop (tCall (spF K (R_demand K C T)) [] E (tCons (tCall (spF K (R_is_in K C T)) [] E (tCons (tVar 0) (tCons (tC (.int 1)) (tCons (tC (.int 6)) tNil)))) (tCons (tC (.str "burst")) tNil))))
    (tSeq (tDrop (tCall (spF K (R_demand K C T)) [] E (tCons (tCall (spF K (R_is_in K C T)) [] E (tCons (tVar 1) (tCons (tC (.int 1)) (tCons (tC (.int 12)) tNil)))) (tCons (tC (.str "gap")) tNil))))
    (tSeq (tDrop (tCall (spF K (R_demand K C T)) [] E (tCons (tCall (spF K (R_are_times K C T)) [] E (tCons (tVar 2) tNil)) (tCons (tC (.str "times")) tNil))))
    (tRet (tCall (spF K (R_are_kept K C T)) [] E (tCons (tVar 0) (tCons (tVar 1) (tCons (tVar 2) tNil))))))))
def t_wait_all (K : PySem.W.Frag) (C : Str → Addr) (T : List (Addr × Str)) (E : XK) : TS :=
  (tSeq (tAsg (tCall (spF K (R_finish_all K C T)) [] E (tCons (tVar 0) (tCons (tVar 1) (tCons (tLc (iSeq K (tVar 3)) (gName 6) tYes (tCall (spF K (R_read_at K C T)) [] E0 (tCons (tVar 2) (tCons (tVar 6) tNil))) [6]) tNil)))) (gName 4))
    (tRet (tLc (iZipU K (tCons (tVar 4) (tCons (tVar 3) tNil))) (gTup K 2 (gCons (gName 5) (gCons (gName 6) gNil))) tYes (tOp (rD2 K subOk subD) (tVar 5) (tVar 6)) [5, 6])))
def t_waited (K : PySem.W.Frag) (C : Str → Addr) (T : List (Addr × Str)) (E : XK) : TS :=
  (tSeq (tDrop (tCall (spF K (R_demand K C T)) [] E (tCons (tCall (spF K (R_is_in K C T)) [] E (tCons (tVar 0) (tCons (tC (.int 1)) (tCons (tC (.int 4)) tNil)))) (tCons (tC (.str "crews")) tNil))))
    (tSeq (tDrop (tCall (spF K (R_demand K C T)) [] E (tCons (tCall (spF K (R_is_in K C T)) [] E (tCons (tVar 1) (tCons (tC (.int 1)) (tCons (tC (.int 12)) tNil)))) (tCons (tC (.str "work")) tNil))))
    (tSeq (tDrop (tCall (spF K (R_demand K C T)) [] E (tCons (tCall (spF K (R_is_in K C T)) [] E (tCons (tVar 2) (tCons (tC (.int 1)) (tCons (tC (.int 12)) tNil)))) (tCons (tC (.str "every")) tNil))))
    (tSeq (tDrop (tCall (spF K (R_demand K C T)) [] E (tCons (tCall (spF K (R_are_times K C T)) [] E (tCons (tVar 3) tNil)) (tCons (tC (.str "times")) tNil))))
    (tRet (tCB (rDn K seqOk tupD) (tCons (tCall (spF K (R_wait_all K C T)) [] E (tCons (tVar 0) (tCons (tVar 1) (tCons (tVar 2) (tCons (tVar 3) tNil))))) tNil)))))))
theorem ints_noScr (ns : List Int) : deep1 (.tuple (ns.map PyData.int)) = true := by
  show (ns.map PyData.int).all noScr = true
  rw [List.all_map]
  exact List.all_eq_true.mpr fun x _ => rfl
theorem isIn_i {n lo hi : Int} (h0 : lo ≤ n) (h1 : n ≤ hi) : isIn (.int n) lo hi = true := by unfold isIn; simp [h0, h1]
theorem times_len {ns : List Int} (h : areTimes (.tuple (ns.map PyData.int)) = true) : ns.length ≤ 1000 := by
  have h : (decide ((ns.map PyData.int).length ≤ 1000) && _) = true := h
  rw [Bool.and_eq_true] at h
  simpa using h.1
theorem rd_finishes_ok {c : Nat} {w : Int} {ts : List Int} {g} (h0 : 1 ≤ c) (h1 : c ≤ 4) (h2 : 1 ≤ w) (h3 : w ≤ 12) (ht : areTimes (.tuple (ts.map PyData.int)) = true) :
    Run K E (t_finishes K C T E) ⟨[.dat (.int c), .dat (.int w), .dat (.tuple (ts.map PyData.int))], g⟩ (.rt (.tuple ((fin c w ts).map PyData.int)) ⟨[.dat (.int c), .dat (.int w), .dat (.tuple (ts.map PyData.int))], g⟩) := by
  have a1 : isIn (.int c) 1 4 = true := isIn_i (by omega) (by omega)
  have a2 : isIn (.int w) 1 12 = true := isIn_i h2 h3
  have a3 := ints_noScr ts
  have a4 := times_len ht
  walk_at "s"
  walk_at "s"
  walk_at "s"
  apply run_ret
  apply ev_tupL
  exact ev_call (ea_cons (ev_var rfl) (ea_cons (ev_var rfl) (ea_cons (ev_var rfl) ea_nil))) (.mk h0 (by omega) rfl (by omega))
theorem rd_finishes_no1 {v x y : D} {g} (hn : noScr v = true) (h : isIn v 1 4 = false) : Run K E (t_finishes K C T E) ⟨[.dat v, .dat x, .dat y], g⟩ (.ex (C "BadArgument") "name" (.str "crews") ⟨[.dat v, .dat x, .dat y], g⟩) := by
  walk_at "rs"
theorem rd_finishes_no2 {v x y : D} {g} (hn : noScr v = true) (h : isIn v 1 4 = true) (hx : noScr x = true) (h1 : isIn x 1 12 = false) : Run K E (t_finishes K C T E) ⟨[.dat v, .dat x, .dat y], g⟩ (.ex (C "BadArgument") "name" (.str "work") ⟨[.dat v, .dat x, .dat y], g⟩) := by
  walk_at "s"
  walk_at "rs"
theorem rd_finishes_no3 {v x y : D} {g} (hn : noScr v = true) (h : isIn v 1 4 = true) (hx : noScr x = true) (h1 : isIn x 1 12 = true) (hy : noScr y = true) (hy2 : deep1 y = true) (h2 : areTimes y = false) : Run K E (t_finishes K C T E) ⟨[.dat v, .dat x, .dat y], g⟩ (.ex (C "BadArgument") "name" (.str "times") ⟨[.dat v, .dat x, .dat y], g⟩) := by
  walk_at "s"
  walk_at "s"
  walk_at "rs"
theorem rd_told_at_ok {e : Int} {ts : List Int} {g} (h0 : 1 ≤ e) (h1 : e ≤ 12) (ht : areTimes (.tuple (ts.map PyData.int)) = true) :
    Run K E (t_told_at K C T E) ⟨[.dat (.int e), .dat (.tuple (ts.map PyData.int)), .unk], g⟩ (.rt (.tuple ((ts.map (rdAt e)).map PyData.int)) ⟨[.dat (.int e), .dat (.tuple (ts.map PyData.int)), .unk], g⟩) := by
  have a1 : isIn (.int e) 1 12 = true := isIn_i h0 h1
  have a3 := ints_noScr ts
  have a4 := times_len ht
  walk_at "s"
  walk_at "s"
  apply run_ret
  apply ev_tupL
  refine Ev.to (ev_lcM (fun d => .int (rdAt e (ofInt d))) (it_seq (ev_var rfl) rfl) (by rw [List.length_map]; exact le_size (by omega)) (by walk_at "nr") fun d hd => ?_) (by rw [List.map_map, List.map_map]; rfl)
  obtain ⟨n, _, rfl⟩ := List.mem_map.mp hd
  refine ⟨_, by walk_at "tv", ?_, ?_⟩
  · walk_at "w"
    exact Fo.le (by walk_at "fo")
  · walk_at "w"
    exact ev_call (ea_cons (ev_var rfl) (ea_cons (ev_var rfl) ea_nil)) (.mk (by omega) (by omega))
theorem rd_told_at_no1 {v y : D} {g} (hn : noScr v = true) (h : isIn v 1 12 = false) : Run K E (t_told_at K C T E) ⟨[.dat v, .dat y, .unk], g⟩ (.ex (C "BadArgument") "name" (.str "every") ⟨[.dat v, .dat y, .unk], g⟩) := by
  walk_at "rs"
theorem rd_told_at_no2 {v y : D} {g} (hn : noScr v = true) (h : isIn v 1 12 = true) (hy : noScr y = true) (hy2 : deep1 y = true) (h2 : areTimes y = false) : Run K E (t_told_at K C T E) ⟨[.dat v, .dat y, .unk], g⟩ (.ex (C "BadArgument") "name" (.str "times") ⟨[.dat v, .dat y, .unk], g⟩) := by
  walk_at "s"
  walk_at "rs"
theorem rd_keeps_gap_ok {b w : Int} {ts : List Int} {g} (h0 : 1 ≤ b) (h1 : b ≤ 6) (h2 : 1 ≤ w) (h3 : w ≤ 12) (ht : areTimes (.tuple (ts.map PyData.int)) = true) :
    Run K E (t_keeps_gap K C T E) ⟨[.dat (.int b), .dat (.int w), .dat (.tuple (ts.map PyData.int))], g⟩ (.rt (.bool (kept2 b w ts)) ⟨[.dat (.int b), .dat (.int w), .dat (.tuple (ts.map PyData.int))], g⟩) := by
  have a1 : isIn (.int b) 1 6 = true := isIn_i h0 h1
  have a2 : isIn (.int w) 1 12 = true := isIn_i h2 h3
  have a3 := ints_noScr ts
  have a4 := times_len ht
  walk_at "s"
  walk_at "s"
  walk_at "s"
  apply run_ret
  exact ev_call (ea_cons (ev_var rfl) (ea_cons (ev_var rfl) (ea_cons (ev_var rfl) ea_nil))) (.mk h0 h1 h2 h3 (by omega))
theorem rd_keeps_gap_no1 {v x y : D} {g} (hn : noScr v = true) (h : isIn v 1 6 = false) : Run K E (t_keeps_gap K C T E) ⟨[.dat v, .dat x, .dat y], g⟩ (.ex (C "BadArgument") "name" (.str "burst") ⟨[.dat v, .dat x, .dat y], g⟩) := by
  walk_at "rs"
theorem rd_keeps_gap_no2 {v x y : D} {g} (hn : noScr v = true) (h : isIn v 1 6 = true) (hx : noScr x = true) (h1 : isIn x 1 12 = false) : Run K E (t_keeps_gap K C T E) ⟨[.dat v, .dat x, .dat y], g⟩ (.ex (C "BadArgument") "name" (.str "gap") ⟨[.dat v, .dat x, .dat y], g⟩) := by
  walk_at "s"
  walk_at "rs"
theorem rd_keeps_gap_no3 {v x y : D} {g} (hn : noScr v = true) (h : isIn v 1 6 = true) (hx : noScr x = true) (h1 : isIn x 1 12 = true) (hy : noScr y = true) (hy2 : deep1 y = true) (h2 : areTimes y = false) : Run K E (t_keeps_gap K C T E) ⟨[.dat v, .dat x, .dat y], g⟩ (.ex (C "BadArgument") "name" (.str "times") ⟨[.dat v, .dat x, .dat y], g⟩) := by
  walk_at "s"
  walk_at "s"
  walk_at "rs"
theorem rd_waited_ok {c : Nat} {w e : Int} {ts : List Int} {g} (h0 : 1 ≤ c) (h1 : c ≤ 4) (h2 : 1 ≤ w) (h3 : w ≤ 12) (h4 : 1 ≤ e) (h5 : e ≤ 12) (ht : areTimes (.tuple (ts.map PyData.int)) = true) :
    Run K E (t_waited K C T E) ⟨[.dat (.int c), .dat (.int w), .dat (.int e), .dat (.tuple (ts.map PyData.int))], g⟩ (.rt (.tuple ((waits c w e ts).map PyData.int)) ⟨[.dat (.int c), .dat (.int w), .dat (.int e), .dat (.tuple (ts.map PyData.int))], g⟩) := by
  have a1 : isIn (.int c) 1 4 = true := isIn_i (by omega) (by omega)
  have a2 : isIn (.int w) 1 12 = true := isIn_i h2 h3
  have a5 : isIn (.int e) 1 12 = true := isIn_i h4 h5
  have a3 := ints_noScr ts
  have a4 := times_len ht
  walk_at "s"
  walk_at "s"
  walk_at "s"
  walk_at "s"
  apply run_ret
  apply ev_tupL
  exact ev_call (ea_cons (ev_var rfl) (ea_cons (ev_var rfl) (ea_cons (ev_var rfl) (ea_cons (ev_var rfl) ea_nil)))) (.mk h0 (by omega) (by omega) (by omega) rfl (by omega))
theorem rd_waited_no1 {v x z y : D} {g} (hn : noScr v = true) (h : isIn v 1 4 = false) : Run K E (t_waited K C T E) ⟨[.dat v, .dat x, .dat z, .dat y], g⟩ (.ex (C "BadArgument") "name" (.str "crews") ⟨[.dat v, .dat x, .dat z, .dat y], g⟩) := by
  walk_at "rs"
theorem rd_waited_no2 {v x z y : D} {g} (hn : noScr v = true) (h : isIn v 1 4 = true) (hx : noScr x = true) (h1 : isIn x 1 12 = false) : Run K E (t_waited K C T E) ⟨[.dat v, .dat x, .dat z, .dat y], g⟩ (.ex (C "BadArgument") "name" (.str "work") ⟨[.dat v, .dat x, .dat z, .dat y], g⟩) := by
  walk_at "s"
  walk_at "rs"
theorem rd_waited_no3 {v x z y : D} {g} (hn : noScr v = true) (h : isIn v 1 4 = true) (hx : noScr x = true) (h1 : isIn x 1 12 = true) (hz : noScr z = true) (h2 : isIn z 1 12 = false) : Run K E (t_waited K C T E) ⟨[.dat v, .dat x, .dat z, .dat y], g⟩ (.ex (C "BadArgument") "name" (.str "every") ⟨[.dat v, .dat x, .dat z, .dat y], g⟩) := by
  walk_at "s"
  walk_at "s"
  walk_at "rs"
theorem rd_waited_no4 {v x z y : D} {g} (hn : noScr v = true) (h : isIn v 1 4 = true) (hx : noScr x = true) (h1 : isIn x 1 12 = true) (hz : noScr z = true) (h2 : isIn z 1 12 = true) (hy : noScr y = true) (hy2 : deep1 y = true) (h3 : areTimes y = false) : Run K E (t_waited K C T E) ⟨[.dat v, .dat x, .dat z, .dat y], g⟩ (.ex (C "BadArgument") "name" (.str "times") ⟨[.dat v, .dat x, .dat z, .dat y], g⟩) := by
  walk_at "s"
  walk_at "s"
  walk_at "s"
  walk_at "rs"
end CM

namespace CM
open PySem PySem.Spec PyProof.Rows L2 DL
variable {K : PySem.W.Frag} {C : Str → Addr} {T : List (Addr × Str)} {E : XK}
theorem int_at {ns : List Int} {i : Int} (h0 : 0 ≤ i) (h1 : i < ns.length) : atI (ns.map PyData.int) i = some (.int (ns.getD i.toNat 0)) := by
  have hi : i.toNat < ns.length := by omega
  have e : i = ((i.toNat : Nat) : Int) := by omega
  rw [e]
  refine DL.atI_nat ?_
  rw [Int.toNat_natCast, List.getElem?_map, List.getElem?_eq_getElem hi, List.getD_eq_getElem?_getD, List.getElem?_eq_getElem hi]
  rfl
theorem rd_are_kept {burst gap : Int} {ns : List Int} {g} (h0 : 1 ≤ burst) (h1 : burst ≤ 6) (h2 : 1 ≤ gap) (h3 : gap ≤ 12) (hl : ns.length ≤ 10000) :
    Run K E (t_are_kept K C T E) ⟨[.dat (.int burst), .dat (.int gap), .dat (.tuple (ns.map PyData.int)), .unk, .unk], g⟩ (.rt (.bool (kept2 burst gap ns)) ⟨[.dat (.int burst), .dat (.int gap), .dat (.tuple (ns.map PyData.int)), .unk, .unk], g⟩) := by
  -- the inner loop at place a
  have body : ∀ a : Nat, a < ns.length → ∀ d, d ∈ tos burst ns a → ∃ to : Int, d = .int to ∧ (a : Int) + burst ≤ to ∧ to < ns.length := fun a ha d hd => by
    obtain ⟨i, hi, rfl⟩ := upTo_mem.mp hd
    exact ⟨_, rfl, by omega, by omega⟩
  have test : ∀ (a : Nat) (to : Int), a < ns.length → (a : Int) + burst ≤ to → to < ns.length → EvT K (tTest (tOp (rD2 K ltXOk ltXD) (tOp (rD2 K subOk subD) (tOp (rD2 K ixOk ixD) (tVar 2) (tVar 4)) (tOp (rD2 K ixOk ixD) (tVar 2) (tVar 3))) (tOp (rD2 K mulOkV mulD) (tOp (rD2 K subOk subD) (tOp (rD2 K addOk addD) (tOp (rD2 K subOk subD) (tVar 4) (tVar 3)) (tC (.int 1))) (tVar 0)) (tVar 1))))
      ⟨[.dat (.int burst), .dat (.int gap), .dat (.tuple (ns.map PyData.int)), .dat (.int a), .dat (.int to)], g⟩ (badB burst gap ns a to) ⟨[.dat (.int burst), .dat (.int gap), .dat (.tuple (ns.map PyData.int)), .dat (.int a), .dat (.int to)], g⟩ := fun a to ha h4 h5 => by
    apply et_test
    apply ev_ltI
    · apply ev_subI
      · exact ev_ixT (ev_var rfl) (ev_var rfl) (int_at (by omega) h5)
      · exact ev_ixT (ev_var rfl) (ev_var rfl) (int_at (by omega) (by omega))
    · walk_at "ev"
  have itA : IterD K (iRng1 (tCons (tCB (rDn K lenOk lenD) (tCons (tVar 2) tNil)) tNil)) ⟨[.dat (.int burst), .dat (.int gap), .dat (.tuple (ns.map PyData.int)), .unk, .unk], g⟩ (DL.upTo 0 ns.length) ⟨[.dat (.int burst), .dat (.int gap), .dat (.tuple (ns.map PyData.int)), .unk, .unk], g⟩ := by
    rw [show ns.length = ((ns.length : Nat) : Int).toNat from (Int.toNat_natCast _).symm]
    exact it_r1 (ev_lenTI (ev_var rfl)) (by omega)
  have itB : ∀ a : Nat, a < ns.length → IterD K (iRng2 (tCons (tOp (rD2 K addOk addD) (tVar 3) (tVar 0)) (tCons (tCB (rDn K lenOk lenD) (tCons (tVar 2) tNil)) tNil))) ⟨[.dat (.int burst), .dat (.int gap), .dat (.tuple (ns.map PyData.int)), .dat (.int a), .unk], g⟩ (tos burst ns a) ⟨[.dat (.int burst), .dat (.int gap), .dat (.tuple (ns.map PyData.int)), .dat (.int a), .unk], g⟩ := fun a ha => by
    show IterD K _ _ (DL.upTo ((a : Int) + burst) ((ns.length : Int) - ((a : Int) + burst)).toNat) _
    exact it_r2 (ev_addI (ev_var rfl) (ev_var rfl)) (ev_lenTI (ev_var rfl)) (by omega)
  have inNo : ∀ a : Nat, a < ns.length → rowB burst gap ns a = false → Run K E (tFor (iRng2 (tCons (tOp (rD2 K addOk addD) (tVar 3) (tVar 0)) (tCons (tCB (rDn K lenOk lenD) (tCons (tVar 2) tNil)) tNil))) (gName 4) (tIfS (tTest (tOp (rD2 K ltXOk ltXD) (tOp (rD2 K subOk subD) (tOp (rD2 K ixOk ixD) (tVar 2) (tVar 4)) (tOp (rD2 K ixOk ixD) (tVar 2) (tVar 3))) (tOp (rD2 K mulOkV mulD) (tOp (rD2 K subOk subD) (tOp (rD2 K addOk addD) (tOp (rD2 K subOk subD) (tVar 4) (tVar 3)) (tC (.int 1))) (tVar 0)) (tVar 1)))) (tRet (tC (.bl false))) tNext))
      ⟨[.dat (.int burst), .dat (.int gap), .dat (.tuple (ns.map PyData.int)), .dat (.int a), .unk], g⟩ (.nx ⟨[.dat (.int burst), .dat (.int gap), .dat (.tuple (ns.map PyData.int)), .dat (.int a), .unk], g⟩) := fun a ha hr => by
    refine run_forAll (fun d => badB burst gap ns a (ofInt d)) (itB a ha) (SLe.refl _) (fun d hd => ?_) (fun d hd hf => ?_)
    · unfold rowB at hr
      rw [List.any_eq_false] at hr
      simpa using hr d hd
    · obtain ⟨to, rfl, h4, h5⟩ := body a ha d hd
      refine ⟨_, tg_name, ?_⟩
      walk_at "d"
      refine run_le (run_no (EvT.to (test a to ha h4 h5) hf) run_next) (Fo.le (by walk_at "fo"))
  have inYes : ∀ a : Nat, a < ns.length → rowB burst gap ns a = true → Run K E (tFor (iRng2 (tCons (tOp (rD2 K addOk addD) (tVar 3) (tVar 0)) (tCons (tCB (rDn K lenOk lenD) (tCons (tVar 2) tNil)) tNil))) (gName 4) (tIfS (tTest (tOp (rD2 K ltXOk ltXD) (tOp (rD2 K subOk subD) (tOp (rD2 K ixOk ixD) (tVar 2) (tVar 4)) (tOp (rD2 K ixOk ixD) (tVar 2) (tVar 3))) (tOp (rD2 K mulOkV mulD) (tOp (rD2 K subOk subD) (tOp (rD2 K addOk addD) (tOp (rD2 K subOk subD) (tVar 4) (tVar 3)) (tC (.int 1))) (tVar 0)) (tVar 1)))) (tRet (tC (.bl false))) tNext))
      ⟨[.dat (.int burst), .dat (.int gap), .dat (.tuple (ns.map PyData.int)), .dat (.int a), .unk], g⟩ (.rt (.bool false) ⟨[.dat (.int burst), .dat (.int gap), .dat (.tuple (ns.map PyData.int)), .unk, .unk], g⟩) := fun a ha hr => by
    refine run_forAny (fun d => badB burst gap ns a (ofInt d)) (itB a ha) (SLe.refl _) (List.any_eq_true.mp hr) (fun d hd hf => ?_) (fun d hd hf => ?_)
    · obtain ⟨to, rfl, h4, h5⟩ := body a ha d hd
      refine ⟨_, tg_name, ?_⟩
      walk_at "d"
      refine run_le (run_no (EvT.to (test a to ha h4 h5) hf) run_next) (Fo.le (by walk_at "fo"))
    · obtain ⟨to, rfl, h4, h5⟩ := body a ha d hd
      refine ⟨_, .rt (.bool false) ⟨[.dat (.int burst), .dat (.int gap), .dat (.tuple (ns.map PyData.int)), .unk, .unk], g⟩, tg_name, ?_, rfl, rfl⟩
      walk_at "d"
      exact run_yes (EvT.to (test a to ha h4 h5) hf) (run_retle ev_bl (Fo.le (by walk_at "fo")))
  have place : ∀ d, d ∈ DL.upTo 0 ns.length → ∃ a : Nat, d = .int a ∧ a < ns.length := fun d hd => by
    obtain ⟨i, hi, rfl⟩ := upTo_mem.mp hd
    exact ⟨i, by congr 1; omega, hi⟩
  cases hk : (DL.upTo 0 ns.length).any fun at_ => rowB burst gap ns (ofInt at_) with
  | true =>
    have e : kept2 burst gap ns = false := by unfold kept2; rw [hk]; rfl
    rw [e]
    apply run_end
    · refine run_forAny (fun d => rowB burst gap ns (ofInt d)) itA (SLe.refl _) (List.any_eq_true.mp hk) (fun d hd hf => ?_) (fun d hd hf => ?_)
      · obtain ⟨a, rfl, ha⟩ := place d hd
        refine ⟨_, tg_name, ?_⟩
        walk_at "d"
        exact run_le (inNo a ha hf) (Fo.le (by walk_at "fo"))
      · obtain ⟨a, rfl, ha⟩ := place d hd
        exact ⟨_, _, tg_name, inYes a ha hf, rfl, rfl⟩
    · rfl
  | false =>
    have e : kept2 burst gap ns = true := by unfold kept2; rw [hk]; rfl
    rw [e]
    apply run_seq
    · refine run_forAll (fun d => rowB burst gap ns (ofInt d)) itA (SLe.refl _) (fun d hd => ?_) (fun d hd hf => ?_)
      · rw [List.any_eq_false] at hk
        simpa using hk d hd
      · obtain ⟨a, rfl, ha⟩ := place d hd
        refine ⟨_, tg_name, ?_⟩
        walk_at "d"
        exact run_le (inNo a ha hf) (Fo.le (by walk_at "fo"))
    exact run_ret ev_bl
end CM

namespace CM
open PySem PySem.Spec PyProof.Rows L2 DL
variable {K : PySem.W.Frag} {C : Str → Addr} {T : List (Addr × Str)} {E : XK}
theorem rd_wait_all {c : Nat} {w e : Int} {d : D} {ts : List Int} {g} (h : 0 < c) (h1 : c ≤ 1000) (h2 : 0 < e) (h3 : e < 1000) (hd : seqD d = some (ts.map PyData.int)) (hl : ts.length ≤ 10000) :
    Run K E (t_wait_all K C T E) ⟨[.dat (.int c), .dat (.int w), .dat (.int e), .dat d, .unk, .unk, .unk], g⟩ (.rt (.list ((waits c w e ts).map PyData.int)) ⟨[.dat (.int c), .dat (.int w), .dat (.int e), .dat d, .dat (.list ((fin c w (ts.map (rdAt e))).map PyData.int)), .unk, .unk], g⟩) := by
  apply run_seq
  · apply run_asg
    apply ev_call
    · apply ea_cons
      · exact ev_var rfl
      apply ea_cons
      · exact ev_var rfl
      apply ea_cons
      · refine Ev.to (ev_lcM (y := fun d => .int (rdAt e (ofInt d))) (it_seq (ev_var rfl) hd) (by rw [List.length_map]; exact le_size (by omega)) (by walk_at "nr") fun d hd => ?_) (show _ = PyData.list ((ts.map (rdAt e)).map PyData.int) by rw [List.map_map, List.map_map]; rfl)
        obtain ⟨n, _, rfl⟩ := List.mem_map.mp hd
        refine ⟨_, by walk_at "tv", ?_, ?_⟩
        · walk_at "w"
          exact Fo.le (by walk_at "fo")
        · walk_at "w"
          exact ev_call (ea_cons (ev_var rfl) (ea_cons (ev_var rfl) ea_nil)) (.mk h2 h3)
      · exact ea_nil
    · exact .mk h h1 rfl (by rw [List.length_map]; exact hl)
  walk_at "d"
  apply run_ret
  have ez : zipD ((fin c w (ts.map (rdAt e))).map PyData.int) (ts.map PyData.int) = ((fin c w (ts.map (rdAt e))).zip ts).map fun p => PyData.tuple [.int p.1, .int p.2] := by
    unfold zipD
    rw [List.zip_map, List.map_map]
    rfl
  refine Ev.to (ev_lcM (y := fun d => match d with | .tuple [.int a, .int b] => .int (a - b) | _ => .none) (it_zip (ea_cons (ev_var rfl) (ea_cons (ev_var rfl) ea_nil)) rfl hd) ?_ (by walk_at "nr") fun x hx => ?_) ?_
  · rw [ez, List.length_map, List.length_zip]
    exact le_size (by omega)
  · rw [ez] at hx
    obtain ⟨p, _, rfl⟩ := List.mem_map.mp hx
    refine ⟨_, by walk_at "tv", ?_, ?_⟩
    · walk_at "w"
      exact Fo.le (by walk_at "fo")
    · walk_at "w"
      exact ev_subI (ev_var rfl) (ev_var rfl)
  · rw [ez, List.map_map]
    unfold waits
    rw [List.map_map]
    rfl
end CM

/-! the mathematics of the crews: each one begins when the one c ahead of it has ended -/
namespace M06
/-- the free times in order: the first one is the least -/
def qstep (w : Int) (q : List Int) (t : Int) : List Int := q.tail ++ [max (q.headD 0) t + w]
def qend (w : Int) (q : List Int) (t : Int) : Int := max (q.headD 0) t + w
def qf (w : Int) (q : List Int) (ts : List Int) : List Int := ts.foldl (qstep w) q
def qe (w : Int) : List Int → List Int → List Int
  | _, [] => []
  | q, t :: ts => qend w q t :: qe w (qstep w q t) ts
theorem qe_len (w : Int) : ∀ (ts q : List Int), (qe w q ts).length = ts.length
  | [], _ => rfl
  | t :: ts, q => by unfold qe; rw [List.length_cons, qe_len w ts, List.length_cons]
theorem qstep_len {w t : Int} {q : List Int} (h : q ≠ []) : (qstep w q t).length = q.length := by
  cases q with
  | nil => exact absurd rfl h
  | cons x q => simp [qstep]
theorem qstep_ne {w t : Int} {q : List Int} : qstep w q t ≠ [] := by simp [qstep]
theorem qf_len {w : Int} : ∀ (ts : List Int) {q : List Int}, q ≠ [] → (qf w q ts).length = q.length
  | [], _, _ => rfl
  | t :: ts, q, h => by
    show (qf w (qstep w q t) ts).length = _
    rw [qf_len ts qstep_ne, qstep_len h]
/-- the free times and then the ends, all in one row -/
theorem row_eq {w : Int} : ∀ (ts : List Int) {q : List Int}, q ≠ [] → q ++ qe w q ts = ((q ++ qe w q ts).take ts.length) ++ qf w q ts
  | [], q, _ => by simp [qe, qf]
  | t :: ts, q, h => by
    cases q with
    | nil => exact absurd rfl h
    | cons x q =>
      have ih := row_eq (w := w) ts (q := qstep w (x :: q) t) qstep_ne
      have e : (x :: q) ++ qe w (x :: q) (t :: ts) = x :: (qstep w (x :: q) t ++ qe w (qstep w (x :: q) t) ts) := by
        show (x :: q) ++ (qend w (x :: q) t :: _) = _
        simp [qstep, qend]
      rw [e]
      show _ = (x :: _).take (ts.length + 1) ++ qf w (qstep w (x :: q) t) ts
      rw [List.take_succ_cons, List.cons_append, ← ih]
theorem qf_drop {w : Int} {ts q : List Int} (h : q ≠ []) : qf w q ts = (q ++ qe w q ts).drop ts.length := by
  have e := row_eq (w := w) ts h
  have hl : ((q ++ qe w q ts).take ts.length).length = ts.length := by
    rw [List.length_take, List.length_append, qe_len]; omega
  conv => rhs; rw [e]
  rw [List.drop_append, hl]
  simp
/-- the row's entries -/
def row (w : Int) (q ts : List Int) (j : Nat) : Int := (q ++ qe w q ts).getD j 0
theorem row_lo {w : Int} {q ts : List Int} {j : Nat} (h : j < q.length) : row w q ts j = q.getD j 0 := by
  unfold row
  rw [List.getD_eq_getElem?_getD, List.getElem?_append_left h, ← List.getD_eq_getElem?_getD]
theorem row_hi {w : Int} : ∀ {ts q : List Int} {j : Nat}, q ≠ [] → j < ts.length → row w q ts (q.length + j) = max (row w q ts j) (ts.getD j 0) + w
  | [], _, _, _, h => by simp at h
  | t :: ts, q, j, hq, h => by
    cases q with
    | nil => exact absurd rfl hq
    | cons x q =>
      have e : ∀ k, row w (x :: q) (t :: ts) (k + 1) = row w (qstep w (x :: q) t) ts k := by
        intro k
        unfold row
        have e : (x :: q) ++ qe w (x :: q) (t :: ts) = x :: (qstep w (x :: q) t ++ qe w (qstep w (x :: q) t) ts) := by
          show (x :: q) ++ (qend w (x :: q) t :: _) = _
          simp [qstep, qend]
        rw [e]
        simp
      cases j with
      | zero =>
        have e1 : row w (x :: q) (t :: ts) ((x :: q).length + 0) = row w (qstep w (x :: q) t) ts q.length := e q.length
        rw [e1, row_lo (by simp [qstep]), row_lo (by simp)]
        simp [qstep]
      | succ j =>
        have e1 : row w (x :: q) (t :: ts) ((x :: q).length + (j + 1)) = row w (qstep w (x :: q) t) ts ((qstep w (x :: q) t).length + j) := by
          rw [qstep_len (by simp), ← e]
          congr 1
        rw [e1, row_hi qstep_ne (by simpa using h), ← e]
        simp
theorem qe_at {w : Int} {q ts : List Int} {j : Nat} : (qe w q ts).getD j 0 = row w q ts (q.length + j) := by
  unfold row
  rw [List.getD_eq_getElem?_getD, List.getD_eq_getElem?_getD, List.getElem?_append_right (by omega), Nat.add_sub_cancel_left]
theorem qf_at {w : Int} {q ts : List Int} {j : Nat} (h : q ≠ []) : (qf w q ts).getD j 0 = row w q ts (ts.length + j) := by
  unfold row
  rw [qf_drop h, List.getD_eq_getElem?_getD, List.getD_eq_getElem?_getD, List.getElem?_drop]
/-! ### a chain: what comes of the one at r -/
/-- chain bounds: job j (its end is row (c + j)) by those i * c ahead of it -/
theorem row_ge {w : Int} {q ts : List Int} (hq : q ≠ []) : ∀ (i : Nat) {j : Nat}, j < ts.length → i * q.length ≤ j → ts.getD (j - i * q.length) 0 + (i + 1 : Nat) * w ≤ row w q ts (q.length + j)
  | 0, j, h, _ => by
    rw [row_hi hq h]
    simp only [Nat.zero_mul, Nat.sub_zero]
    have : ((0 + 1 : Nat) : Int) * w = w := by simp
    omega
  | i + 1, j, h, hi => by
    have hc : 0 < q.length := List.length_pos_iff.mpr hq
    rw [Nat.add_mul, Nat.one_mul] at hi
    have ih := row_ge (w := w) (ts := ts) hq i (j := j - q.length) (by omega) (by omega)
    rw [row_hi hq h]
    rw [show q.length + (j - q.length) = j by omega] at ih
    rw [show j - (i + 1) * q.length = j - q.length - i * q.length by rw [Nat.add_mul]; omega]
    have : ((i + 1 + 1 : Nat) : Int) * w = ((i + 1 : Nat) : Int) * w + w := by rw [Int.natCast_add (i + 1) 1, Int.add_mul]; simp
    omega
/-- what the start gives -/
theorem row_ge0 {w : Int} {q ts : List Int} (hq : q ≠ []) : ∀ (i : Nat) {r : Nat}, r < q.length → r + i * q.length < ts.length → q.getD r 0 + (i + 1 : Nat) * w ≤ row w q ts (q.length + (r + i * q.length))
  | 0, r, hr, h => by
    rw [row_hi hq h, row_lo (by omega)]
    simp only [Nat.zero_mul, Nat.add_zero]
    have : ((0 + 1 : Nat) : Int) * w = w := by simp
    omega
  | i + 1, r, hr, h => by
    rw [Nat.add_mul, Nat.one_mul] at h
    have ih := row_ge0 (w := w) (ts := ts) hq i hr (by omega)
    rw [row_hi hq (by rw [Nat.add_mul, Nat.one_mul]; omega)]
    rw [show r + (i + 1) * q.length = q.length + (r + i * q.length) by rw [Nat.add_mul]; omega]
    have : ((i + 1 + 1 : Nat) : Int) * w = ((i + 1 : Nat) : Int) * w + w := by rw [Int.natCast_add (i + 1) 1, Int.add_mul]; simp
    omega
/-- one of the chain it is -/
theorem row_is {w : Int} {q ts : List Int} (hq : q ≠ []) (n : Nat) : ∀ {j : Nat}, j < n → j < ts.length → (∃ i, i * q.length ≤ j ∧ row w q ts (q.length + j) = ts.getD (j - i * q.length) 0 + (i + 1 : Nat) * w) ∨ ∃ r i, r < q.length ∧ j = r + i * q.length ∧ row w q ts (q.length + j) = q.getD r 0 + (i + 1 : Nat) * w := by
  have one : ((0 + 1 : Nat) : Int) * w = w := by simp
  induction n with
  | zero => intro j h; omega
  | succ n ih =>
    intro j hn h
    have e := row_hi (w := w) hq h
    have hc : 0 < q.length := List.length_pos_iff.mpr hq
    by_cases c1 : row w q ts j ≤ ts.getD j 0
    · exact .inl ⟨0, by omega, by rw [e, one]; simp only [Nat.zero_mul, Nat.sub_zero]; omega⟩
    · by_cases c2 : j < q.length
      · refine .inr ⟨j, 0, c2, by omega, ?_⟩
        rw [e, one]
        rw [row_lo c2] at c1 ⊢
        omega
      · have two : ∀ i : Nat, ((i + 1 + 1 : Nat) : Int) * w = ((i + 1 : Nat) : Int) * w + w := fun i => by rw [Int.natCast_add (i + 1) 1, Int.add_mul]; simp
        have e2 : row w q ts j = row w q ts (q.length + (j - q.length)) := by rw [show q.length + (j - q.length) = j by omega]
        rcases ih (j := j - q.length) (by omega) (by omega) with ⟨i, h1, h2⟩ | ⟨r, i, h1, h2, h3⟩
        · refine .inl ⟨i + 1, by rw [Nat.add_mul]; omega, ?_⟩
          rw [show j - (i + 1) * q.length = j - q.length - i * q.length by rw [Nat.add_mul]; omega, e, two i]
          omega
        · refine .inr ⟨r, i + 1, h1, by rw [Nat.add_mul]; omega, ?_⟩
          rw [e, two i]
          omega

/-! ### behind m single ones -/
structure Aft (c : Nat) (w : Int) (T : Int → Int) (s : Int) (m : Nat) (f : List Int) : Prop where
  len : f.length = c
  lo : ∀ r, r < c → s ≤ f.getD r 0
  ge : ∀ r, r < c → ∀ i : Nat, c - r + i * c ≤ m → T ((c - r + i * c : Nat) : Int) + (i + 1 : Nat) * w ≤ f.getD r 0
  is : ∀ r, r < c → f.getD r 0 = s ∨ ∃ i : Nat, c - r + i * c ≤ m ∧ f.getD r 0 = T ((c - r + i * c : Nat) : Int) + (i + 1 : Nat) * w
theorem aft_0 {c : Nat} {w s : Int} {T : Int → Int} : Aft c w T s 0 (List.replicate c s) := by
  have h : ∀ r, r < c → (List.replicate c s).getD r 0 = s := fun r hr => by rw [List.getD_eq_getElem?_getD, List.getElem?_replicate_of_lt hr]; rfl
  exact ⟨by simp, fun r hr => by rw [h r hr]; exact Int.le_refl _, fun r hr i hi => by omega, fun r hr => .inl (h r hr)⟩
/-- one period on, less the period -/
def nxt (w : Int) (s P : Int) (f ts : List Int) : List Int := (qf w f ts).map fun x => max s (x - P)
theorem aft_step {c : Nat} {w s P : Int} {T : Int → Int} {m p : Nat} {f ts : List Int} (hc : 0 < c) (hP : 0 ≤ P) (a : Aft c w T s m f) (hl : ts.length = p) (ht : ∀ j, j < p → ts.getD j 0 = T (-(j : Int))) (hp : ∀ k, T (k - p) = T k + P) (hs : ∀ j : Nat, s ≤ T (-(j : Int))) :
    Aft c w T s (m + p) (nxt w s P f ts) := by
  have hq : f ≠ [] := fun z => by have := a.len; rw [z] at this; simp at this; omega
  have el := a.len
  have hlen : (nxt w s P f ts).length = c := by unfold nxt; rw [List.length_map, qf_len ts hq, a.len]
  have at_ : ∀ r, r < c → (nxt w s P f ts).getD r 0 = max s (row w f ts (p + r) - P) := fun r hr => by
    unfold nxt
    rw [← hl, ← qf_at hq, List.getD_eq_getElem?_getD, List.getElem?_map, List.getD_eq_getElem?_getD]
    rw [List.getElem?_eq_getElem (by rw [qf_len ts hq, el]; exact hr)]
    rfl
  -- both ways for a place
  have key : ∀ r, r < c → (∀ i : Nat, c - r + i * c ≤ m + p → T ((c - r + i * c : Nat) : Int) + (i + 1 : Nat) * w ≤ row w f ts (p + r) - P) ∧
      (row w f ts (p + r) - P ≤ s ∨ ∃ i : Nat, c - r + i * c ≤ m + p ∧ row w f ts (p + r) - P = T ((c - r + i * c : Nat) : Int) + (i + 1 : Nat) * w) := by
    intro r hr
    by_cases hpr : p + r < c
    · rw [row_lo (by omega)]
      have e : ∀ u : Nat, T ((c - r + u : Nat) : Int) = T ((c - (p + r) + u : Nat) : Int) - P := fun u => by
        have := hp ((c - r + u : Nat) : Int)
        rw [show ((c - r + u : Nat) : Int) - p = ((c - (p + r) + u : Nat) : Int) by omega] at this
        omega
      refine ⟨fun i hi => ?_, ?_⟩
      · have := a.ge (p + r) hpr i (by omega)
        rw [e (i * c)]
        omega
      · rcases a.is (p + r) hpr with h | ⟨i, h1, h2⟩
        · exact .inl (by rw [h]; omega)
        · exact .inr ⟨i, by omega, by rw [e (i * c), h2]; omega⟩
    · obtain ⟨j, hj⟩ : ∃ j, p + r = c + j := ⟨p + r - c, by omega⟩
      have hjp : j < ts.length := by omega
      rw [hj]
      have eq1 : ∀ i : Nat, i * c ≤ j → ts.getD (j - i * c) 0 = T ((c - r + i * c : Nat) : Int) + P := fun i hi => by
        rw [ht _ (by omega), ← hp]
        congr 1
        omega
      rw [← el]
      rw [← el] at eq1
      refine ⟨fun i hi => ?_, ?_⟩
      · by_cases h : i * f.length ≤ j
        · have := row_ge (w := w) (ts := ts) hq i hjp h
          rw [eq1 i h] at this
          omega
        · -- down to the start
          have hj2 := Nat.div_add_mod j f.length
          have hr0 : j % f.length < f.length := Nat.mod_lt _ (by omega)
          rw [Nat.mul_comm] at hj2
          have hi0 : j / f.length < i := by
            apply Nat.lt_of_not_le
            intro z
            exact h (Nat.le_trans (Nat.mul_le_mul_right _ z) (by omega))
          obtain ⟨i', rfl⟩ : ∃ i', i = j / f.length + 1 + i' := ⟨i - (j / f.length + 1), by omega⟩
          have e3 : (j / f.length + 1 + i') * f.length = j / f.length * f.length + f.length + i' * f.length := by rw [Nat.add_mul, Nat.add_mul, Nat.one_mul]
          rw [e3] at hi ⊢
          have g1 := row_ge0 (w := w) (ts := ts) hq (j / f.length) hr0 (by omega)
          rw [show j % f.length + j / f.length * f.length = j by omega] at g1
          have g2 := a.ge (j % f.length) (by omega) i' (by rw [← el]; omega)
          rw [← el] at g2
          rw [show f.length - r + (j / f.length * f.length + f.length + i' * f.length) = f.length - j % f.length + i' * f.length + p by omega]
          have g3 := hp ((f.length - j % f.length + i' * f.length + p : Nat) : Int)
          rw [show ((f.length - j % f.length + i' * f.length + p : Nat) : Int) - p = ((f.length - j % f.length + i' * f.length : Nat) : Int) by omega] at g3
          have g4 : ((j / f.length + 1 + i' + 1 : Nat) : Int) * w = ((j / f.length + 1 : Nat) : Int) * w + ((i' + 1 : Nat) : Int) * w := by
            rw [← Int.add_mul]
            congr 1
          omega
      · rcases row_is (w := w) (ts := ts) hq (j + 1) (Nat.lt_succ_self j) hjp with ⟨i, h1, h2⟩ | ⟨r0, i, h1, h2, h3⟩
        · exact .inr ⟨i, by omega, by rw [h2, eq1 i h1]; omega⟩
        · have hin : i * f.length ≤ j := by omega
          rcases a.is r0 (by omega) with h | ⟨i', h4, h5⟩
          · -- the start is below what is told
            have g1 := row_ge (w := w) (ts := ts) hq i hjp hin
            have g2 : s ≤ ts.getD (j - i * f.length) 0 := by rw [ht _ (by omega)]; exact hs _
            refine .inr ⟨i, by omega, ?_⟩
            have g3 := eq1 i hin
            rw [h] at h3
            omega
          · rw [← el] at h4 h5
            refine .inr ⟨i + 1 + i', ?_, ?_⟩
            · rw [Nat.add_mul, Nat.add_mul, Nat.one_mul]; omega
            · have e3 : (i + 1 + i') * f.length = i * f.length + f.length + i' * f.length := by rw [Nat.add_mul, Nat.add_mul, Nat.one_mul]
              rw [e3, h3, h5]
              rw [show f.length - r + (i * f.length + f.length + i' * f.length) = f.length - r0 + i' * f.length + p by omega]
              have g3 := hp ((f.length - r0 + i' * f.length + p : Nat) : Int)
              rw [show ((f.length - r0 + i' * f.length + p : Nat) : Int) - p = ((f.length - r0 + i' * f.length : Nat) : Int) by omega] at g3
              have g4 : ((i + 1 + i' + 1 : Nat) : Int) * w = ((i + 1 : Nat) : Int) * w + ((i' + 1 : Nat) : Int) * w := by
                rw [← Int.add_mul]
                congr 1
              omega
  refine ⟨hlen, fun r hr => by rw [at_ r hr]; omega, fun r hr i hi => ?_, fun r hr => ?_⟩
  · rw [at_ r hr]
    have := (key r hr).1 i hi
    omega
  · rw [at_ r hr]
    rcases (key r hr).2 with h | ⟨i, h1, h2⟩
    · left; omega
    · by_cases z : row w f ts (p + r) - P ≤ s
      · left; omega
      · right; exact ⟨i, h1, by omega⟩
/-- a longer chain gives no more -/
theorem chain_red {c e : Nat} {w : Int} {T : Int → Int} (he : 0 < e) (hT : ∀ k : Nat, T ((k + e * c : Nat) : Int) + e * w ≤ T (k : Int)) (b : Nat) : ∀ n i : Nat, i < n → ∃ i', i' < e ∧ T ((b + i * c : Nat) : Int) + (i + 1 : Nat) * w ≤ T ((b + i' * c : Nat) : Int) + (i' + 1 : Nat) * w
  | 0, i, h => by omega
  | n + 1, i, h => by
    by_cases q : i < e
    · exact ⟨i, q, Int.le_refl _⟩
    · obtain ⟨i', h1, h2⟩ := chain_red he hT b n (i - e) (by omega)
      refine ⟨i', h1, Int.le_trans ?_ h2⟩
      have := hT (b + (i - e) * c)
      have e1 : b + (i - e) * c + e * c = b + i * c := by rw [Nat.add_assoc, ← Nat.add_mul, Nat.sub_add_cancel (by omega)]
      rw [e1] at this
      have e2 : ((i + 1 : Nat) : Int) * w = ((i - e + 1 : Nat) : Int) * w + e * w := by
        rw [← Int.add_mul]
        congr 1
        omega
      omega
theorem aft_le {c e m m' : Nat} {w s : Int} {T : Int → Int} {f f' : List Int} (he : 0 < e) (hT : ∀ k : Nat, T ((k + e * c : Nat) : Int) + e * w ≤ T (k : Int)) (a : Aft c w T s m f) (a' : Aft c w T s m' f') (h' : e * c ≤ m') {r : Nat} (hr : r < c) : f.getD r 0 ≤ f'.getD r 0 := by
  rcases a.is r hr with h | ⟨i, h1, h2⟩
  · rw [h]; exact a'.lo r hr
  · obtain ⟨i', h3, h4⟩ := chain_red he hT (c - r) (i + 1) i (Nat.lt_succ_self i)
    have := a'.ge r hr i' (by
      have : (i' + 1) * c ≤ e * c := Nat.mul_le_mul_right _ h3
      rw [Nat.add_mul] at this
      omega)
    omega
theorem aft_eq {c e m m' : Nat} {w s : Int} {T : Int → Int} {f f' : List Int} (he : 0 < e) (hT : ∀ k : Nat, T ((k + e * c : Nat) : Int) + e * w ≤ T (k : Int)) (a : Aft c w T s m f) (a' : Aft c w T s m' f') (h : e * c ≤ m) (h' : e * c ≤ m') : f = f' := by
  apply List.ext_getElem (a.len.trans a'.len.symm)
  intro r h1 h2
  have hr : r < c := by rw [← a.len]; exact h1
  have g1 := aft_le he hT a a' h' hr
  have g2 := aft_le he hT a' a h hr
  rw [List.getD_eq_getElem?_getD, List.getD_eq_getElem?_getD, List.getElem?_eq_getElem h1, List.getElem?_eq_getElem h2] at g1 g2
  simp only [Option.getD_some] at g1 g2
  omega
/-! ### the wait of the last one of a burst -/
/-- W is the greatest of the chain's values, by up to m single ones -/
structure Wt (c : Nat) (w : Int) (T : Int → Int) (many m : Nat) (W : Int) : Prop where
  ge : ∀ i : Nat, i * c + 1 - many ≤ m → T ((i * c + 1 - many : Nat) : Int) + (i + 1 : Nat) * w ≤ W
  is : ∃ i : Nat, i * c + 1 - many ≤ m ∧ W = T ((i * c + 1 - many : Nat) : Int) + (i + 1 : Nat) * w
theorem wt_burst {c many m : Nat} {w s : Int} {T : Int → Int} {f : List Int} (hc : 0 < c) (hm : 0 < many) (a : Aft c w T s m f) (h0 : s ≤ T 0) : Wt c w T many m ((qe w f (List.replicate many (T 0))).getD (many - 1) 0) := by
  have hq : f ≠ [] := fun z => by have := a.len; rw [z] at this; simp at this; omega
  have el := a.len
  have hl : (List.replicate many (T 0)).length = many := by simp
  have ta : ∀ j, j < many → (List.replicate many (T 0)).getD j 0 = T 0 := fun j hj => by rw [List.getD_eq_getElem?_getD, List.getElem?_replicate_of_lt hj]; rfl
  rw [qe_at]
  have hj : many - 1 < (List.replicate many (T 0)).length := by omega
  refine ⟨fun i hi => ?_, ?_⟩
  · rw [← el] at hi ⊢
    by_cases h : i * f.length ≤ many - 1
    · have := row_ge (w := w) hq i hj h
      rw [ta _ (by omega)] at this
      rw [show i * f.length + 1 - many = 0 by omega]
      exact this
    · have hj2 := Nat.div_add_mod (many - 1) f.length
      have hr0 : (many - 1) % f.length < f.length := Nat.mod_lt _ (by omega)
      rw [Nat.mul_comm] at hj2
      have hi0 : (many - 1) / f.length < i := by
        apply Nat.lt_of_not_le
        intro z
        exact h (Nat.le_trans (Nat.mul_le_mul_right _ z) (by omega))
      obtain ⟨i', rfl⟩ : ∃ i', i = (many - 1) / f.length + 1 + i' := ⟨i - ((many - 1) / f.length + 1), by omega⟩
      have e3 : ((many - 1) / f.length + 1 + i') * f.length = (many - 1) / f.length * f.length + f.length + i' * f.length := by rw [Nat.add_mul, Nat.add_mul, Nat.one_mul]
      rw [e3] at hi ⊢
      have g1 := row_ge0 (w := w) (ts := List.replicate many (T 0)) hq ((many - 1) / f.length) hr0 (by omega)
      rw [show (many - 1) % f.length + (many - 1) / f.length * f.length = many - 1 by omega] at g1
      have g2 := a.ge ((many - 1) % f.length) (by omega) i' (by rw [← el]; omega)
      rw [← el] at g2
      rw [show (many - 1) / f.length * f.length + f.length + i' * f.length + 1 - many = f.length - (many - 1) % f.length + i' * f.length by omega]
      have g4 : (((many - 1) / f.length + 1 + i' + 1 : Nat) : Int) * w = (((many - 1) / f.length + 1 : Nat) : Int) * w + ((i' + 1 : Nat) : Int) * w := by
        rw [← Int.add_mul]
        congr 1
      omega
  · rcases row_is (w := w) (ts := List.replicate many (T 0)) hq many (by omega) hj with ⟨i, h1, h2⟩ | ⟨r0, i, h1, h2, h3⟩
    · rw [ta _ (by omega)] at h2
      refine ⟨i, by rw [← el]; omega, ?_⟩
      rw [h2, ← el, show i * f.length + 1 - many = 0 by omega]
      rfl
    · have hin : i * f.length ≤ many - 1 := by omega
      rcases a.is r0 (by omega) with h | ⟨i', h4, h5⟩
      · have g1 := row_ge (w := w) hq i hj hin
        rw [ta _ (by omega)] at g1
        refine ⟨i, by rw [← el]; omega, ?_⟩
        rw [← el, show i * f.length + 1 - many = 0 by omega]
        show _ = T 0 + _
        rw [h] at h3
        omega
      · rw [← el] at h4 h5
        have e3 : (i + 1 + i') * f.length = i * f.length + f.length + i' * f.length := by rw [Nat.add_mul, Nat.add_mul, Nat.one_mul]
        refine ⟨i + 1 + i', ?_, ?_⟩
        · rw [← el, e3]; omega
        · rw [← el, e3, h3, h5]
          rw [show i * f.length + f.length + i' * f.length + 1 - many = f.length - r0 + i' * f.length by omega]
          have g4 : ((i + 1 + i' + 1 : Nat) : Int) * w = ((i + 1 : Nat) : Int) * w + ((i' + 1 : Nat) : Int) * w := by
            rw [← Int.add_mul]
            congr 1
          omega
/-- by m single ones and the burst, from crews that are free -/
theorem wt_run {c many m : Nat} {w z : Int} {T : Int → Int} {ts : List Int} (hc : 0 < c) (hm : 0 < many) (hl : ts.length = m + many) (ht : ∀ j, j < m + many → ts.getD j 0 = T ((m - j : Nat) : Int)) (hz : ∀ j, j < m + many → z ≤ ts.getD j 0) : Wt c w T many m ((qe w (List.replicate c z) ts).getD (m + many - 1) 0) := by
  have hq : List.replicate c z ≠ [] := fun q => by have := congrArg List.length q; simp at this; omega
  have el : (List.replicate c z).length = c := by simp
  rw [qe_at]
  have hj : m + many - 1 < ts.length := by omega
  refine ⟨fun i hi => ?_, ?_⟩
  · have := row_ge (w := w) (ts := ts) hq i hj (by rw [el]; omega)
    rw [el, ht _ (by omega)] at this
    rw [show m - (m + many - 1 - i * c) = i * c + 1 - many by omega] at this
    rw [el]
    exact this
  · rcases row_is (w := w) (ts := ts) hq (m + many) (by omega) hj with ⟨i, h1, h2⟩ | ⟨r0, i, h1, h2, h3⟩
    · rw [el] at h1 h2
      rw [ht _ (by omega), show m - (m + many - 1 - i * c) = i * c + 1 - many by omega] at h2
      exact ⟨i, by omega, by rw [el]; exact h2⟩
    · rw [el] at h1 h2 h3
      have g1 := row_ge (w := w) (ts := ts) hq i hj (by rw [el]; omega)
      have e0 : (List.replicate c z).getD r0 0 = z := by rw [List.getD_eq_getElem?_getD, List.getElem?_replicate_of_lt h1]; rfl
      rw [e0] at h3
      have g2 := hz (m + many - 1 - i * c) (by omega)
      rw [el] at g1
      have g3 := ht (m + many - 1 - i * c) (by omega)
      rw [show m - (m + many - 1 - i * c) = i * c + 1 - many by omega] at g3
      refine ⟨i, by omega, ?_⟩
      rw [el]
      omega
theorem wt_red {c e many : Nat} {w : Int} {T : Int → Int} (hc : 0 < c) (he : 0 < e) (hT : ∀ k : Nat, T ((k + e * c : Nat) : Int) + e * w ≤ T (k : Int)) : ∀ n i : Nat, i < n → ∃ i', i' * c + 1 - many ≤ e * c ∧ T ((i * c + 1 - many : Nat) : Int) + (i + 1 : Nat) * w ≤ T ((i' * c + 1 - many : Nat) : Int) + (i' + 1 : Nat) * w
  | 0, i, h => by omega
  | n + 1, i, h => by
    by_cases q : i * c + 1 - many ≤ e * c
    · exact ⟨i, q, Int.le_refl _⟩
    · have hie : e ≤ i := by
        apply Nat.le_of_not_lt
        intro z
        have : i * c ≤ e * c := Nat.mul_le_mul_right _ (by omega)
        have : (i + 1) * c ≤ e * c := Nat.mul_le_mul_right _ (by omega)
        rw [Nat.add_mul] at this
        omega
      obtain ⟨i', h1, h2⟩ := wt_red (many := many) hc he hT n (i - e) (by omega)
      refine ⟨i', h1, Int.le_trans ?_ h2⟩
      have e0 : (i - e) * c + e * c = i * c := by rw [← Nat.add_mul, Nat.sub_add_cancel (by omega)]
      have := hT ((i - e) * c + 1 - many)
      rw [show (i - e) * c + 1 - many + e * c = i * c + 1 - many by omega] at this
      have e2 : ((i + 1 : Nat) : Int) * w = ((i - e + 1 : Nat) : Int) * w + e * w := by
        rw [← Int.add_mul]
        congr 1
        omega
      omega
theorem wt_eq {c e many m m' : Nat} {w : Int} {T : Int → Int} {W W' : Int} (hc : 0 < c) (he : 0 < e) (hT : ∀ k : Nat, T ((k + e * c : Nat) : Int) + e * w ≤ T (k : Int)) (a : Wt c w T many m W) (a' : Wt c w T many m' W') (h : e * c ≤ m) (h' : e * c ≤ m') : W = W' := by
  have le : ∀ {n n' : Nat} {X X' : Int}, Wt c w T many n X → Wt c w T many n' X' → e * c ≤ n' → X ≤ X' := by
    intro n n' X X' b b' hn
    obtain ⟨i, h1, h2⟩ := b.is
    obtain ⟨i', h3, h4⟩ := wt_red (many := many) hc he hT (i + 1) i (Nat.lt_succ_self i)
    have := b'.ge i' (by omega)
    omega
  have := le a a' h'
  have := le a' a h
  omega
/-- faults that keep burst and gap wait no longer -/
theorem wt_most {c burst m : Nat} {w W : Int} {T told : Int → Int} {xs : List Int} {j : Nat} (hc : 0 < c) (hj : j < xs.length) (hjm : j + 1 ≤ burst + m) (h0 : ∀ i, i < xs.length → 0 ≤ told (xs.getD i 0))
    (a : Wt c w T burst m W) (hk : ∀ i, i ≤ j → told (xs.getD (j - i) 0) ≤ T ((i + 1 - burst : Nat) : Int)) : (qe w (List.replicate c 0) (xs.map told)).getD j 0 ≤ W := by
  have hq : List.replicate c (0 : Int) ≠ [] := fun q => by have := congrArg List.length q; simp at this; omega
  have el : (List.replicate c (0 : Int)).length = c := by simp
  have tm : ∀ i, i < xs.length → (xs.map told).getD i 0 = told (xs.getD i 0) := fun i hi => by
    rw [List.getD_eq_getElem?_getD, List.getD_eq_getElem?_getD, List.getElem?_map, List.getElem?_eq_getElem hi]; rfl
  rw [qe_at]
  have hj' : j < (xs.map told).length := by rw [List.length_map]; exact hj
  have fin : ∀ i, i * c ≤ j → (xs.map told).getD (j - i * c) 0 + (i + 1 : Nat) * w ≤ W := fun i hi => by
    rw [tm _ (by omega)]
    have g1 := hk (i * c) hi
    have g2 := a.ge i (by omega)
    omega
  rcases row_is (w := w) (ts := xs.map told) hq (j + 1) (Nat.lt_succ_self j) hj' with ⟨i, h1, h2⟩ | ⟨r0, i, h1, h2, h3⟩
  · rw [el] at h1 h2
    rw [el, h2]
    exact fin i h1
  · rw [el] at h1 h2 h3
    have e0 : (List.replicate c (0 : Int)).getD r0 0 = 0 := by rw [List.getD_eq_getElem?_getD, List.getElem?_replicate_of_lt h1]; rfl
    rw [e0] at h3
    rw [el, h3]
    have g1 := fin i (by omega)
    rw [tm _ (by omega)] at g1
    have g2 := h0 (j - i * c) (by omega)
    omega
end M06

/-! the crews' lists and the rows of M06 -/
namespace M06
open PySem PySem.Spec L2 DL CM
theorem erase_perm : ∀ {fs : List Int} {i : Nat} {x : Int}, fs[i]? = some x → fs.Perm (x :: fs.eraseIdx i)
  | [], i, x, h => by simp at h
  | a :: fs, 0, x, h => by simp at h; subst h; simp
  | a :: fs, i + 1, x, h => by
    have ih := erase_perm (fs := fs) (i := i) (x := x) (by simpa using h)
    rw [List.eraseIdx_cons_succ]
    exact (ih.cons a).trans (List.Perm.swap _ _ _)
theorem set_perm : ∀ {fs : List Int} {i : Nat} {e : Int}, i < fs.length → (fs.set i e).Perm (e :: fs.eraseIdx i)
  | [], i, x, h => by simp at h
  | a :: fs, 0, x, h => by simp
  | a :: fs, i + 1, x, h => by
    have ih := set_perm (fs := fs) (i := i) (e := x) (by simpa using h)
    rw [List.eraseIdx_cons_succ, List.set_cons_succ]
    exact (ih.cons a).trans (List.Perm.swap _ _ _)
theorem lmin_perm {fs : List Int} {x : Int} {r : List Int} (hp : fs.Perm (x :: r)) (hs : (x :: r).Pairwise (· ≤ ·)) : lmin fs = x := by
  rw [List.pairwise_cons] at hs
  refine lmin_spec fs x (hp.symm.subset List.mem_cons_self) fun y hy => ?_
  rcases List.mem_cons.mp (hp.subset hy) with rfl | h
  · exact Int.le_refl _
  · exact hs.1 y h
theorem step_perm {w t : Int} {q fs : List Int} (hq : q ≠ []) (hp : fs.Perm q) (hs : q.Pairwise (· ≤ ·)) : endOf w fs t = qend w q t ∧ (freeOf w fs t).Perm (qstep w q t) := by
  cases q with
  | nil => exact absurd rfl hq
  | cons x r =>
    have e1 := lmin_perm hp hs
    have hne : fs ≠ [] := fun z => by rw [z] at hp; have := hp.length_eq; simp at this
    have e2 : endOf w fs t = qend w (x :: r) t := by
      show max (lmin fs) t + w = max x t + w
      rw [e1]
    refine ⟨e2, ?_⟩
    have hm := mix0_at hne
    rw [e1] at hm
    have p1 := (erase_perm hm).symm.trans hp
    have p2 := p1.cons_inv
    unfold CM.freeOf
    rw [e2]
    refine (set_perm (List.getElem?_eq_some_iff.mp hm).1).trans ?_
    show (qend w (x :: r) t :: _).Perm (r ++ [max x t + w])
    exact (p2.cons _).trans (List.perm_append_singleton _ _).symm
/-- the row of free times is in order, and none is far ahead -/
structure QOk (w : Int) (q : List Int) (u : Int) : Prop where
  ne : q ≠ []
  s : q.Pairwise (· ≤ ·)
  b : ∀ x ∈ q, x ≤ max (q.headD 0) u + w
theorem QOk.up {w u t : Int} {q : List Int} (h : QOk w q u) (ht : u ≤ t) : QOk w q t := ⟨h.ne, h.s, fun x hx => by have := h.b x hx; omega⟩
theorem QOk.step {w u t : Int} {q : List Int} (h : QOk w q u) (hw : 0 ≤ w) (ht : u ≤ t) : QOk w (qstep w q t) t := by
  have h := h.up ht
  cases q with
  | nil => exact absurd rfl h.ne
  | cons x r =>
    have hs := h.s
    rw [List.pairwise_cons] at hs
    have hb := h.b
    refine ⟨qstep_ne, ?_, fun y hy => ?_⟩
    · show (r ++ [max x t + w]).Pairwise _
      rw [List.pairwise_append]
      refine ⟨hs.2, by simp, fun a ha b hb' => ?_⟩
      have := List.mem_singleton.mp hb'
      subst this
      exact hb a (List.mem_cons_of_mem _ ha)
    · have hy' : y ≤ max x t + w := by
        rcases List.mem_append.mp (show y ∈ r ++ [max x t + w] from hy) with h1 | h1
        · exact hb y (List.mem_cons_of_mem _ h1)
        · rw [List.mem_singleton.mp h1]; exact Int.le_refl _
      have hx : x ≤ (qstep w (x :: r) t).headD 0 := by
        cases r with
        | nil => show x ≤ max x t + w; omega
        | cons z r => show x ≤ z; exact hs.1 z List.mem_cons_self
      omega
theorem QOk.rep {w s u : Int} {c : Nat} (hc : 0 < c) (hw : 0 ≤ w) : QOk w (List.replicate c s) u := by
  refine ⟨fun z => by have := congrArg List.length z; simp at this; omega, ?_, fun x hx => ?_⟩
  · rw [List.pairwise_replicate]; exact .inr (Int.le_refl _)
  · have e := (List.mem_replicate.mp hx).2
    have : (List.replicate c s).headD 0 = s := by
      cases c with
      | zero => omega
      | succ c => rfl
    rw [this, e]
    omega
theorem QOk.fold {w : Int} (hw : 0 ≤ w) : ∀ (ts : List Int) {q : List Int} {u : Int}, QOk w q u → (u :: ts).Pairwise (· ≤ ·) → QOk w (qf w q ts) ((u :: ts).getLastD 0)
  | [], q, u, h, _ => h
  | t :: ts, q, u, h, hp => by
    rw [List.pairwise_cons] at hp
    have := QOk.fold hw ts (h.step hw (hp.1 t List.mem_cons_self)) hp.2
    exact this
/-- the crews' list, one fault after another -/
theorem fold_perm {w : Int} (hw : 0 ≤ w) : ∀ (ts : List Int) {q fs : List Int} {u : Int}, fs.Perm q → QOk w q u → (u :: ts).Pairwise (· ≤ ·) → (ts.foldl (freeOf w) fs).Perm (qf w q ts)
  | [], _, _, _, h, _, _ => h
  | t :: ts, q, fs, u, h, k, hp => by
    rw [List.pairwise_cons] at hp
    exact fold_perm hw ts (step_perm k.ne h k.s).2 (k.step hw (hp.1 t List.mem_cons_self)) hp.2
theorem stp_qe {w : Int} (hw : 0 ≤ w) : ∀ (ts : List Int) {q fs acc : List Int} {u : Int}, fs.Perm q → QOk w q u → (u :: ts).Pairwise (· ≤ ·) → (ts.foldl (stp w) (fs, acc)).2 = acc ++ qe w q ts
  | [], _, _, acc, _, _, _, _ => by simp [qe]
  | t :: ts, q, fs, acc, u, h, k, hp => by
    rw [List.pairwise_cons] at hp
    obtain ⟨e1, e2⟩ := step_perm (t := t) k.ne h k.s
    have := stp_qe hw ts (acc := acc ++ [endOf w fs t]) e2 (k.step hw (hp.1 t List.mem_cons_self)) hp.2
    show (ts.foldl (stp w) (freeOf w fs t, acc ++ [endOf w fs t])).2 = _
    rw [this, e1]
    simp [qe]
theorem fin_qe {c : Nat} {w : Int} {ts : List Int} (hc : 0 < c) (hw : 0 ≤ w) (hs : ts.Pairwise (· ≤ ·)) : fin c w ts = qe w (List.replicate c 0) ts := by
  have pw : ((ts.headD 0) :: ts).Pairwise (· ≤ ·) := by
    cases ts with
    | nil => simp
    | cons t ts =>
      rw [List.pairwise_cons]
      refine ⟨fun a ha => ?_, hs⟩
      rw [List.pairwise_cons] at hs
      rcases List.mem_cons.mp ha with rfl | h
      · exact Int.le_refl _
      · exact hs.1 a h
  have := stp_qe hw ts (acc := []) (List.Perm.refl (List.replicate c (0 : Int))) (QOk.rep (u := ts.headD 0) hc hw) pw
  unfold fin
  rw [this]; rfl
/-! ### the law's own ends: sorted anew each time -/
def lstp (w : Int) (p : List Int × List Int) (t : Int) : List Int × List Int := ((max ((sortI p.1).headD 0) t + w) :: (sortI p.1).tail, p.2 ++ [max ((sortI p.1).headD 0) t + w])
def lends (c : Nat) (w : Int) (ts : List Int) : List Int := (ts.foldl (lstp w) (List.replicate c 0, [])).2
theorem lstp_len {w : Int} : ∀ (ts : List Int) (p : List Int × List Int), p.1 ≠ [] → (ts.foldl (lstp w) p).1.length = p.1.length ∧ (ts.foldl (lstp w) p).2.length = p.2.length + ts.length
  | [], p, _ => ⟨rfl, rfl⟩
  | t :: ts, p, h => by
    obtain ⟨h1, h2⟩ := lstp_len ts (lstp w p t) (by simp [lstp])
    have hl : (sortI p.1).length = p.1.length := (sortI_perm p.1).length_eq
    have hp : 0 < p.1.length := List.length_pos_iff.mpr h
    refine ⟨h1.trans ?_, h2.trans ?_⟩
    · show (_ :: (sortI p.1).tail).length = _
      rw [List.length_cons, List.length_tail, hl]; omega
    · show (p.2 ++ [_]).length + ts.length = _
      simp; omega
theorem lends_len {c : Nat} {w : Int} {ts : List Int} (hc : 0 < c) : (lends c w ts).length = ts.length := by
  unfold lends
  rw [(lstp_len ts _ (fun z => by have := congrArg List.length z; simp at this; omega)).2]
  simp
theorem sortI_of {fs q : List Int} (h : fs.Perm q) (hs : q.Pairwise (· ≤ ·)) : sortI fs = q := sorted_unique ((sortI_perm fs).trans h) (sortI_sorted fs) hs
theorem lstp_qe {w : Int} (hw : 0 ≤ w) : ∀ (ts : List Int) {q fs acc : List Int} {u : Int}, fs.Perm q → QOk w q u → (u :: ts).Pairwise (· ≤ ·) → (ts.foldl (lstp w) (fs, acc)).2 = acc ++ qe w q ts
  | [], _, _, acc, _, _, _, _ => by simp [qe]
  | t :: ts, q, fs, acc, u, h, k, hp => by
    rw [List.pairwise_cons] at hp
    have e := sortI_of h k.s
    have e3 : lstp w (fs, acc) t = (qend w q t :: q.tail, acc ++ [qend w q t]) := by
      unfold lstp qend
      simp only [e]
    have p3 : (qend w q t :: q.tail).Perm (qstep w q t) := (List.perm_append_singleton _ _).symm
    show (ts.foldl (lstp w) (lstp w (fs, acc) t)).2 = _
    rw [e3, lstp_qe hw ts p3 (k.step hw (hp.1 t List.mem_cons_self)) hp.2]
    simp [qe]
theorem pw_hd {ts : List Int} (hs : ts.Pairwise (· ≤ ·)) : ((ts.headD 0) :: ts).Pairwise (· ≤ ·) := by
  cases ts with
  | nil => simp
  | cons t ts =>
    rw [List.pairwise_cons]
    refine ⟨fun a ha => ?_, hs⟩
    rw [List.pairwise_cons] at hs
    rcases List.mem_cons.mp ha with rfl | h
    · exact Int.le_refl _
    · exact hs.1 a h
theorem lends_qe {c : Nat} {w : Int} {ts : List Int} (hc : 0 < c) (hw : 0 ≤ w) (hs : ts.Pairwise (· ≤ ·)) : lends c w ts = qe w (List.replicate c 0) ts := by
  have := lstp_qe hw ts (acc := []) (List.Perm.refl (List.replicate c (0 : Int))) (QOk.rep (u := ts.headD 0) hc hw) (pw_hd hs)
  unfold lends
  rw [this]; rfl
/-! ### when a fault is read -/
theorem rd_div {e t : Int} (he : 0 < e) : rdAt e t = t + (-t) % e := by
  unfold rdAt
  have h1 := Int.emod_add_mul_ediv (-t) e
  have h2 : -(-t / e) * e = -(e * (-t / e)) := by rw [Int.neg_mul, Int.mul_comm]
  omega
theorem rd_ge {e t : Int} (he : 0 < e) : t ≤ rdAt e t ∧ rdAt e t < t + e := by
  rw [rd_div he]
  have h1 := Int.emod_nonneg (-t) (show e ≠ 0 by omega)
  have h2 := Int.emod_lt_of_pos (-t) he
  omega
theorem rd_mono {e t u : Int} (he : 0 < e) (h : t ≤ u) : rdAt e t ≤ rdAt e u := by
  unfold rdAt
  have : -u / e ≤ -t / e := Int.ediv_le_ediv he (by omega)
  exact Int.mul_le_mul_of_nonneg_right (by omega) (by omega)
theorem rd_shift {e t k : Int} (he : 0 < e) (hk : k % e = 0) : rdAt e (t + k) = rdAt e t + k := by
  rw [rd_div he, rd_div he]
  have hk2 := Int.emod_add_mul_ediv k e
  have : (-(t + k)) % e = (-t) % e := by
    have h1 : -(t + k) = -t + e * (-(k / e)) := by rw [Int.mul_neg]; omega
    rw [h1, Int.add_mul_emod_self_left]
  omega
theorem rd_mul {e t : Int} (he : 0 < e) (k : Int) : rdAt e (t + e * k) = rdAt e t + e * k := rd_shift he (Int.mul_emod_right e k)
end M06

namespace M06
open PySem PySem.Spec L2 DL CM
theorem idx_range {p : Nat → Bool} {n : Nat} (h : (List.range n).findIdx p < n) : p ((List.range n).findIdx p) = true := by
  have hl : (List.range n).findIdx p < (List.range n).length := by rw [List.length_range]; exact h
  have := List.findIdx_getElem (p := p) (w := hl)
  simpa only [List.getElem_range] using this
/-! ### the period -/
def perI (e g : Int) : Nat := (List.range e.toNat).findIdx fun i => decide ((g * ((i : Nat) + 1)) % e = 0)
def perN (e g : Int) : Nat := perI e g + 1
def per (e g : Int) : Int := g * (perN e g : Nat)
theorem perI_lt {e g : Int} (he : 0 < e) : perI e g < e.toNat := by
  have h : ∃ x ∈ List.range e.toNat, (fun i : Nat => decide ((g * ((i : Nat) + 1)) % e = 0)) x = true := by
    refine ⟨e.toNat - 1, by simp; omega, ?_⟩
    have : ((e.toNat - 1 : Nat) : Int) + 1 = e := by omega
    simp only [this, decide_eq_true_eq]
    exact Int.mul_emod_left g e
  have := List.findIdx_lt_length_of_exists h
  rw [List.length_range] at this
  exact this
theorem per_dvd {e g : Int} (he : 0 < e) : per e g % e = 0 := by
  have := idx_range (perI_lt (g := g) he)
  have := of_decide_eq_true this
  unfold per perN
  rw [Int.natCast_add]
  exact this
theorem per_first {e g : Int} {j : Nat} (hj : j < perI e g) : (g * ((j : Nat) + 1)) % e ≠ 0 := by
  have := List.not_of_lt_findIdx hj
  rw [List.getElem_range] at this
  simpa using this
theorem perN_le {e g : Int} (he : 0 < e) : perN e g ≤ e.toNat := by have := perI_lt (g := g) he; unfold perN; omega
/-! ### the told ticks, counted backwards -/
def Tf (e g s k : Int) : Int := rdAt e (s - k * g)
section
variable {c : Nat} {w e g s : Int}
theorem tf_mono {k j : Int} (he : 0 < e) (hg : 0 ≤ g) (h : k ≤ j) : Tf e g s j ≤ Tf e g s k := by
  refine rd_mono he ?_
  have := Int.mul_le_mul_of_nonneg_right h hg
  omega
theorem tf_hp (he : 0 < e) (k : Int) : Tf e g s (k - perN e g) = Tf e g s k + per e g := by
  unfold Tf
  rw [← rd_shift he (per_dvd he)]
  congr 1
  unfold per
  rw [Int.sub_mul, Int.mul_comm g]
  omega
theorem tf_hT (he : 0 < e) (hcg : w ≤ c * g) (k : Nat) : Tf e g s ((k + e.toNat * c : Nat) : Int) + (e.toNat : Nat) * w ≤ Tf e g s (k : Int) := by
  have e1 : Tf e g s (k : Int) = Tf e g s ((k + e.toNat * c : Nat) : Int) + e * (c * g) := by
    unfold Tf
    rw [← rd_mul he]
    congr 1
    rw [Int.natCast_add, Int.natCast_mul, Int.add_mul, show ((e.toNat : Nat) : Int) = e by omega, Int.mul_assoc]
    omega
  have e2 : e * w ≤ e * (c * g) := Int.mul_le_mul_of_nonneg_left hcg (by omega)
  rw [e1, show ((e.toNat : Nat) : Int) = e by omega]
  omega
theorem tf_ge (he : 0 < e) (hg : 0 ≤ g) (j : Nat) : s ≤ Tf e g s (-(j : Int)) := by
  have := (rd_ge (e := e) (t := s - -(j : Int) * g) he).1
  have h2 : 0 ≤ (j : Int) * g := Int.mul_nonneg (by omega) hg
  have h3 : -(j : Int) * g = -((j : Int) * g) := Int.neg_mul _ _
  unfold Tf
  omega
/-- the ticks at which a period's faults are told -/
def tks (e g s : Int) : List Int := (List.range (perN e g)).map fun i => rdAt e (s + (i : Nat) * g)
theorem tks_len : (tks e g s).length = perN e g := by simp [tks]
theorem tks_at {j : Nat} (h : j < perN e g) : (tks e g s).getD j 0 = Tf e g s (-(j : Int)) := by
  unfold tks Tf
  rw [List.getD_eq_getElem?_getD, List.getElem?_map, List.getElem?_range h]
  show rdAt e (s + (j : Int) * g) = _
  congr 1
  rw [Int.neg_mul]; omega
theorem tks_pw (he : 0 < e) (hg : 0 ≤ g) : (Tf e g s 1 :: tks e g s).Pairwise (· ≤ ·) := by
  rw [List.pairwise_cons]
  refine ⟨fun a ha => ?_, ?_⟩
  · obtain ⟨i, _, rfl⟩ := List.mem_map.mp ha
    refine rd_mono he ?_
    have : 0 ≤ (i : Int) * g := Int.mul_nonneg (by omega) hg
    omega
  · unfold tks
    rw [List.pairwise_map]
    refine List.Pairwise.imp ?_ (List.pairwise_lt_range (n := perN e g))
    intro a b hab
    refine rd_mono he ?_
    have : (a : Int) * g ≤ (b : Int) * g := Int.mul_le_mul_of_nonneg_right (by omega) hg
    omega
theorem tks_last (he : 0 < e) : (Tf e g s 1 :: tks e g s).getLastD 0 = Tf e g s 1 + per e g := by
  rw [← tf_hp he]
  have h : tks e g s = (List.range (perI e g)).map (fun i => rdAt e (s + (i : Nat) * g)) ++ [rdAt e (s + (perI e g : Nat) * g)] := by
    unfold tks perN
    rw [List.range_succ, List.map_append]
    rfl
  rw [h]
  have : ((Tf e g s 1 :: ((List.range (perI e g)).map (fun i => rdAt e (s + (i : Nat) * g)) ++ [rdAt e (s + (perI e g : Nat) * g)])).getLastD 0) = rdAt e (s + (perI e g : Nat) * g) := by
    rw [← List.cons_append, List.getLastD_concat]
  rw [this]
  unfold Tf perN
  congr 1
  rw [show (1 : Int) - ((perI e g + 1 : Nat) : Int) = -(perI e g : Int) by omega, Int.neg_mul]
  omega
/-- the crews behind a period -/
def leadF (w e g s : Int) (fs : List Int) : List Int := sortI (((tks e g s).foldl (CM.freeOf w) fs).map fun t => max s (t - per e g))
def fseq (c : Nat) (w e g s : Int) : Nat → List Int
  | 0 => List.replicate c s
  | n + 1 => leadF w e g s (fseq c w e g s n)
theorem leadF_eq {q : List Int} (he : 0 < e) (hg : 0 ≤ g) (hw : 0 ≤ w) (h : QOk w q (Tf e g s 1)) : leadF w e g s q = nxt w s (per e g) q (tks e g s) ∧ QOk w (nxt w s (per e g) q (tks e g s)) (Tf e g s 1) := by
  have k := QOk.fold hw (tks e g s) h (tks_pw he hg)
  rw [tks_last he] at k
  have p := fold_perm hw (tks e g s) (List.Perm.refl q) h (tks_pw he hg)
  have hs : (nxt w s (per e g) q (tks e g s)).Pairwise (· ≤ ·) := by
    unfold nxt
    rw [List.pairwise_map]
    refine List.Pairwise.imp ?_ k.s
    intro a b hab
    omega
  refine ⟨sortI_of (p.map _) hs, fun z => ?_, hs, fun x hx => ?_⟩
  · have := congrArg List.length z
    unfold nxt at this
    rw [List.length_map] at this
    exact k.ne (List.length_eq_zero_iff.mp this)
  · obtain ⟨y, hy, rfl⟩ := List.mem_map.mp hx
    have := k.b y hy
    have hh : (nxt w s (per e g) q (tks e g s)).headD 0 = max s ((qf w q (tks e g s)).headD 0 - per e g) := by
      unfold nxt
      have := k.ne
      cases z : qf w q (tks e g s) with
      | nil => exact absurd z this
      | cons a r => rfl
    rw [hh]
    omega
theorem fseq_ok (hc : 0 < c) (he : 0 < e) (hg : 0 < g) (hw : 0 ≤ w) : ∀ n, Aft c w (Tf e g s) s (n * perN e g) (fseq c w e g s n) ∧ QOk w (fseq c w e g s n) (Tf e g s 1)
  | 0 => ⟨by rw [Nat.zero_mul]; exact aft_0, QOk.rep hc hw⟩
  | n + 1 => by
    obtain ⟨h1, h2⟩ := fseq_ok hc he hg hw n
    obtain ⟨e1, k⟩ := leadF_eq he (by omega) hw h2
    show Aft c w (Tf e g s) s ((n + 1) * perN e g) (leadF w e g s (fseq c w e g s n)) ∧ QOk w (leadF w e g s (fseq c w e g s n)) (Tf e g s 1)
    rw [e1, Nat.add_mul, Nat.one_mul]
    refine ⟨aft_step hc (Int.mul_nonneg (by omega) (by omega)) h1 tks_len (fun j hj => tks_at hj) (fun k => tf_hp he k) (fun j => tf_ge he (by omega) j), k⟩
theorem fseq_len (hc : 0 < c) (he : 0 < e) (hg : 0 < g) (hw : 0 ≤ w) (n : Nat) : (fseq c w e g s n).length = c := (fseq_ok hc he hg hw n).1.len
/-- so many single ones that nothing changes any more -/
theorem big_n {n : Nat} (he : 0 < e) (he2 : e ≤ 12) (hc4 : c ≤ 4) (hn : 48 ≤ n) : e.toNat * c ≤ n * perN e g := by
  have h1 : e.toNat * c ≤ 12 * 4 := Nat.mul_le_mul (by omega) hc4
  have h2 : n * 1 ≤ n * perN e g := Nat.mul_le_mul_left _ (by unfold perN; omega)
  omega
theorem fseq_fix (hc : 0 < c) (hc4 : c ≤ 4) (he : 0 < e) (he2 : e ≤ 12) (hg : 0 < g) (hw : 0 ≤ w) (hcg : w ≤ c * g) {n m : Nat} (hn : 48 ≤ n) (hm : 48 ≤ m) : fseq c w e g s n = fseq c w e g s m :=
  aft_eq (e := e.toNat) (by omega) (fun k => tf_hT he hcg k) (fseq_ok hc he hg hw n).1 (fseq_ok hc he hg hw m).1 (big_n he he2 hc4 hn) (big_n he he2 hc4 hm)
/-- the turn at which the crews' ticks change no more -/
def busyT (c : Nat) (w e g s : Int) : Nat := (List.range 49).findIdx fun n => decide (fseq c w e g s (n + 1) = fseq c w e g s n)
def busyF (c : Nat) (w e g s : Int) : List Int := fseq c w e g s (busyT c w e g s)
theorem busyT_lt (hc : 0 < c) (hc4 : c ≤ 4) (he : 0 < e) (he2 : e ≤ 12) (hg : 0 < g) (hw : 0 ≤ w) (hcg : w ≤ c * g) : busyT c w e g s < 49 := by
  have h : ∃ x ∈ List.range 49, (fun n : Nat => decide (fseq c w e g s (n + 1) = fseq c w e g s n)) x = true := ⟨48, by simp, by simp only [decide_eq_true_eq]; exact fseq_fix hc hc4 he he2 hg hw hcg (by decide) (by decide)⟩
  have := List.findIdx_lt_length_of_exists h
  rw [List.length_range] at this
  exact this
theorem busy_fix (hc : 0 < c) (hc4 : c ≤ 4) (he : 0 < e) (he2 : e ≤ 12) (hg : 0 < g) (hw : 0 ≤ w) (hcg : w ≤ c * g) : fseq c w e g s (busyT c w e g s + 1) = busyF c w e g s := by
  exact of_decide_eq_true (idx_range (busyT_lt (s := s) hc hc4 he he2 hg hw hcg))
theorem busy_not {n : Nat} (h : n < busyT c w e g s) : fseq c w e g s (n + 1) ≠ fseq c w e g s n := by
  have := List.not_of_lt_findIdx h
  rw [List.getElem_range] at this
  simpa using this
theorem busyF_eq (hc : 0 < c) (hc4 : c ≤ 4) (he : 0 < e) (he2 : e ≤ 12) (hg : 0 < g) (hw : 0 ≤ w) (hcg : w ≤ c * g) : busyF c w e g s = fseq c w e g s 48 := by
  have h1 := busy_fix (s := s) hc hc4 he he2 hg hw hcg
  have h2 := busyT_lt (s := s) hc hc4 he he2 hg hw hcg
  have key : ∀ k, fseq c w e g s (busyT c w e g s + k) = busyF c w e g s := by
    intro k
    induction k with
    | zero => rfl
    | succ k ih =>
      show leadF w e g s (fseq c w e g s (busyT c w e g s + k)) = _
      rw [ih]
      exact h1
  have := key (48 - busyT c w e g s)
  rw [show busyT c w e g s + (48 - busyT c w e g s) = 48 by omega] at this
  exact this.symm
/-- how long the last one of a burst waits -/
def bw (c : Nat) (w e g : Int) (many : Nat) (s : Int) : Int := ((List.replicate many (rdAt e s)).foldl (stp w) (busyF c w e g s, [])).2.getD (many - 1) 0 - s
theorem bw_wt {many : Nat} (hm : 0 < many) (hc : 0 < c) (hc4 : c ≤ 4) (he : 0 < e) (he2 : e ≤ 12) (hg : 0 < g) (hw : 0 ≤ w) (hcg : w ≤ c * g) : ∃ m, 48 ≤ m ∧ Wt c w (Tf e g s) many m (bw c w e g many s + s) := by
  obtain ⟨a, q⟩ := fseq_ok (s := s) hc he hg hw 48
  rw [← busyF_eq hc hc4 he he2 hg hw hcg] at a q
  have e0 : Tf e g s 0 = rdAt e s := by unfold Tf; congr 1; omega
  refine ⟨48 * perN e g, ?_, ?_⟩
  · have : 48 * 1 ≤ 48 * perN e g := Nat.mul_le_mul_left _ (by unfold perN; omega)
    omega
  · have := wt_burst hc hm a (by have := tf_ge (s := s) he (show 0 ≤ g by omega) 0; simpa using this)
    have e1 : bw c w e g many s + s = (qe w (busyF c w e g s) (List.replicate many (Tf e g s 0))).getD (many - 1) 0 := by
      unfold bw
      have := stp_qe hw (List.replicate many (rdAt e s)) (acc := []) (List.Perm.refl (busyF c w e g s)) q (by
        rw [List.pairwise_cons]
        refine ⟨fun x hx => ?_, by rw [List.pairwise_replicate]; exact .inr (Int.le_refl _)⟩
        rw [(List.mem_replicate.mp hx).2, ← e0]
        exact tf_mono he (by omega) (by decide))
      rw [this, e0]
      simp
    rw [e1]
    exact this
/-! ### the law's own run -/
def first (e g ph : Int) : Int := 72 * g + (ph - 72 * g) % e
def lts (e g : Int) (many : Nat) (ph : Int) : List Int := ((List.range 72).map fun i => first e g ph - (72 - (i : Nat)) * g) ++ List.replicate many (first e g ph)
def lw (c : Nat) (w e g : Int) (many : Nat) (ph : Int) : Int := (lends c w ((lts e g many ph).map (rdAt e))).getD (72 + many - 1) 0 - first e g ph
theorem lts_at {many j : Nat} {ph : Int} (h : j < 72 + many) : (lts e g many ph).getD j 0 = first e g ph - ((72 - j : Nat) : Int) * g := by
  unfold lts
  rw [List.getD_eq_getElem?_getD]
  by_cases c1 : j < 72
  · rw [List.getElem?_append_left (by simp; omega), List.getElem?_map, List.getElem?_range c1]
    show first e g ph - (72 - (j : Int)) * g = _
    congr 2
    omega
  · rw [List.getElem?_append_right (by simp; omega)]
    simp only [List.length_map, List.length_range]
    rw [List.getElem?_replicate_of_lt (by omega), show 72 - j = 0 by omega]
    simp
theorem lts_len {many : Nat} {ph : Int} : (lts e g many ph).length = 72 + many := by simp [lts]
theorem first_is {ph : Int} (he : 0 < e) : ∃ k, first e g ph = ph + e * k := by
  have h := Int.emod_add_mul_ediv (ph - 72 * g) e
  refine ⟨-((ph - 72 * g) / e), ?_⟩
  unfold first
  rw [Int.mul_neg]
  omega
theorem first_ge {ph : Int} (he : 0 < e) : 72 * g ≤ first e g ph ∧ first e g ph < 72 * g + e := by
  have h1 := Int.emod_nonneg (ph - 72 * g) (show e ≠ 0 by omega)
  have h2 := Int.emod_lt_of_pos (ph - 72 * g) he
  unfold first
  omega
theorem getD_pw {ns : List Int} (h : ∀ i j, i ≤ j → j < ns.length → ns.getD i 0 ≤ ns.getD j 0) : ns.Pairwise (· ≤ ·) := by
  rw [List.pairwise_iff_getElem]
  intro i j hi hj hij
  have := h i j (by omega) hj
  rw [List.getD_eq_getElem?_getD, List.getD_eq_getElem?_getD, List.getElem?_eq_getElem hi, List.getElem?_eq_getElem hj] at this
  simpa using this
theorem map_getD {f : Int → Int} {ns : List Int} {j : Nat} (h : j < ns.length) : (ns.map f).getD j 0 = f (ns.getD j 0) := by
  rw [List.getD_eq_getElem?_getD, List.getD_eq_getElem?_getD, List.getElem?_map, List.getElem?_eq_getElem h]; rfl
theorem lts_pw {many : Nat} {ph : Int} (hg : 0 ≤ g) : (lts e g many ph).Pairwise (· ≤ ·) := getD_pw fun i j hij hj => by
  rw [lts_len] at hj
  rw [lts_at (by omega), lts_at hj]
  have : ((72 - j : Nat) : Int) * g ≤ ((72 - i : Nat) : Int) * g := Int.mul_le_mul_of_nonneg_right (by omega) hg
  omega
theorem pw_rd {ns : List Int} (he : 0 < e) (h : ns.Pairwise (· ≤ ·)) : (ns.map (rdAt e)).Pairwise (· ≤ ·) := by
  rw [List.pairwise_map]
  exact h.imp fun hab => rd_mono he hab
theorem lw_wt {many : Nat} {ph : Int} (hm : 0 < many) (hc : 0 < c) (he : 0 < e) (hg : 0 < g) (hw : 0 ≤ w) : Wt c w (Tf e g ph) many 72 (lw c w e g many ph + ph) := by
  obtain ⟨k, hk⟩ := first_is (g := g) (ph := ph) he
  have f0 := first_ge (g := g) (ph := ph) he
  have tl : ((lts e g many ph).map (rdAt e)).length = 72 + many := by rw [List.length_map, lts_len]
  have ta : ∀ j, j < 72 + many → ((lts e g many ph).map (rdAt e)).getD j 0 = Tf e g ph ((72 - j : Nat) : Int) + e * k := fun j hj => by
    rw [map_getD (by rw [lts_len]; exact hj), lts_at hj, hk]
    unfold Tf
    rw [← rd_mul he]
    congr 1
    omega
  have z : ∀ j, j < 72 + many → 0 ≤ ((lts e g many ph).map (rdAt e)).getD j 0 := fun j hj => by
    rw [map_getD (by rw [lts_len]; exact hj), lts_at hj]
    have h1 := (rd_ge (e := e) (t := first e g ph - ((72 - j : Nat) : Int) * g) he).1
    have h2 : ((72 - j : Nat) : Int) * g ≤ 72 * g := Int.mul_le_mul_of_nonneg_right (by omega) (by omega)
    omega
  have key := wt_run (w := w) (T := fun k' => Tf e g ph k' + e * k) hc hm tl ta z
  have e1 : lw c w e g many ph + ph = (qe w (List.replicate c 0) ((lts e g many ph).map (rdAt e))).getD (72 + many - 1) 0 - e * k := by
    unfold lw
    rw [lends_qe hc hw (pw_rd he (lts_pw (by omega))), hk]
    omega
  rw [e1]
  refine ⟨fun i hi => ?_, ?_⟩
  · have := key.ge i hi
    omega
  · obtain ⟨i, h1, h2⟩ := key.is
    exact ⟨i, h1, by omega⟩
theorem lw_bw {many : Nat} {ph : Int} (hm : 0 < many) (hc : 0 < c) (hc4 : c ≤ 4) (he : 0 < e) (he2 : e ≤ 12) (hg : 0 < g) (hw : 0 ≤ w) (hcg : w ≤ c * g) : lw c w e g many ph = bw c w e g many ph := by
  obtain ⟨m, h1, h2⟩ := bw_wt (s := ph) hm hc hc4 he he2 hg hw hcg
  have h3 := lw_wt (ph := ph) hm hc he hg hw
  have h4 : e.toNat * c ≤ 12 * 4 := Nat.mul_le_mul (by omega) hc4
  have := wt_eq (e := e.toNat) hc (by omega) (fun k => tf_hT he hcg k) h2 h3 (by omega) (by omega)
  omega
theorem lw_pos {many : Nat} {ph : Int} (hm : 0 < many) (hc : 0 < c) (he : 0 < e) (hg : 0 < g) (hw : 0 < w) : w ≤ lw c w e g many ph := by
  have h := (lw_wt (ph := ph) hm hc he hg (show 0 ≤ w by omega)).ge 0 (by omega)
  rw [show 0 * c + 1 - many = 0 by omega] at h
  have h2 := tf_ge (s := ph) he (show 0 ≤ g by omega) 0
  have h3 : ((0 + 1 : Nat) : Int) * w = w := by simp
  rw [h3] at h
  simp only [Int.natCast_zero, Int.neg_zero] at h h2
  omega
end
end M06

namespace M06
open PySem PySem.Spec L2 DL CM
/-! ### faults that keep burst and gap -/
structure Kp (b g : Int) (ts : List Int) : Prop where
  s : ∀ i j, i ≤ j → j < ts.length → ts.getD i 0 ≤ ts.getD j 0
  k : ∀ i j, i ≤ j → j < ts.length → ts.getD i 0 + ((j : Int) + 1 - i - b) * g ≤ ts.getD j 0
theorem kept_of {b g : Int} {ts : List Int} (h : Kp b g ts) (hb : 0 ≤ b) : kept2 b g ts = true := by
  unfold kept2
  rw [Bool.not_eq_true', List.any_eq_false]
  intro a ha
  obtain ⟨i, hi, rfl⟩ := upTo_mem.mp ha
  unfold rowB
  rw [Bool.not_eq_true, List.any_eq_false]
  intro x hx
  unfold tos at hx
  obtain ⟨j, hj, rfl⟩ := upTo_mem.mp hx
  have e1 : ofInt (.int (0 + (i : Int))) = i := by show 0 + (i : Int) = i; omega
  rw [e1] at hj ⊢
  obtain ⟨m, hm⟩ : ∃ m : Nat, ofInt (.int ((i : Int) + b + (j : Int))) = m := ⟨(i + b + j).toNat, by show (i : Int) + b + j = _; omega⟩
  rw [hm]
  have hm' : (i : Int) + b + j = m := hm
  have := h.k i m (by omega) (by omega)
  unfold badB
  rw [Bool.not_eq_true, decide_eq_false_iff_not]
  simp only [Int.toNat_natCast]
  have e2 : (m : Int) + 1 - i - b = m - i + 1 - b := by omega
  rw [e2] at this
  omega
theorem waits_getD {c : Nat} {w e : Int} {ts : List Int} {j : Nat} (h : j < ts.length) : (waits c w e ts).getD j 0 = (fin c w (ts.map (rdAt e))).getD j 0 - ts.getD j 0 := by
  have hl : j < (fin c w (ts.map (rdAt e))).length := by rw [fin_len, List.length_map]; exact h
  have e1 : ((fin c w (ts.map (rdAt e))).zip ts)[j]? = some ((fin c w (ts.map (rdAt e)))[j], ts[j]) := List.getElem?_zip_eq_some.mpr ⟨List.getElem?_eq_getElem hl, List.getElem?_eq_getElem h⟩
  unfold waits
  rw [List.getD_eq_getElem?_getD, List.getElem?_map, e1, List.getD_eq_getElem?_getD, List.getD_eq_getElem?_getD, List.getElem?_eq_getElem hl, List.getElem?_eq_getElem h]
  rfl
theorem waits_len {c : Nat} {w e : Int} {ts : List Int} : (waits c w e ts).length = ts.length := by
  unfold waits
  rw [List.length_map, List.length_zip, fin_len, List.length_map, Nat.min_self]
/-- no fault waits longer than the last one of a burst at the same phase -/
theorem wait_most {c many : Nat} {w e g : Int} {ts : List Int} {j : Nat} (hm : 0 < many) (hc : 0 < c) (he : 0 < e) (hg : 0 < g) (hw : 0 ≤ w) (hk : Kp many g ts) (h0 : ∀ i, i < ts.length → 0 ≤ ts.getD i 0) (hj : j < ts.length) (hj2 : j ≤ 71) : (waits c w e ts).getD j 0 ≤ lw c w e g many (ts.getD j 0 % e) := by
  have hs : ts.Pairwise (· ≤ ·) := getD_pw hk.s
  have q := Int.emod_add_mul_ediv (ts.getD j 0) e
  have a := lw_wt (ph := ts.getD j 0 % e) hm hc he hg hw
  have a' : Wt c w (Tf e g (ts.getD j 0)) many 72 (lw c w e g many (ts.getD j 0 % e) + ts.getD j 0) := by
    have sh : ∀ k, Tf e g (ts.getD j 0) k = Tf e g (ts.getD j 0 % e) k + e * (ts.getD j 0 / e) := fun k => by
      unfold Tf
      rw [← rd_mul he]
      congr 1
      omega
    refine ⟨fun i hi => ?_, ?_⟩
    · have := a.ge i hi
      rw [sh]
      omega
    · obtain ⟨i, h1, h2⟩ := a.is
      exact ⟨i, h1, by rw [sh]; omega⟩
  have key := wt_most (w := w) (told := rdAt e) (xs := ts) (j := j) hc hj (by omega) (fun i hi => by have := (rd_ge (e := e) (t := ts.getD i 0) he).1; have := h0 i hi; omega) a' (fun i hi => by
    unfold Tf
    refine rd_mono he ?_
    have h1 := hk.s (j - i) j (by omega) hj
    have h2 := hk.k (j - i) j (by omega) hj
    by_cases c1 : i + 1 ≤ many
    · rw [show i + 1 - many = 0 by omega]
      simp only [Int.natCast_zero, Int.zero_mul]
      omega
    · rw [show (j : Int) + 1 - ((j - i : Nat) : Int) - (many : Int) = ((i + 1 - many : Nat) : Int) by omega] at h2
      omega)
  rw [waits_getD hj, fin_qe hc hw (pw_rd he hs)]
  omega
/-! ### the drawn ones -/
structure FT where
  d : Dice
  now : Int
  ts : List Int
def ftLeast (b g : Int) (ts : List Int) : List Int := (List.range ts.length).map fun i => ts.getD i 0 + ((ts.length : Int) + 1 - (i : Nat) - b) * g
def ftX (g : Int) (d : Dice) : Int := ofInt (pick d [.int 0, .int 0, .int 0, .int 1, .int g])
def ftNow (b g : Int) (p : FT) : Int := lmax ((p.now + ftX g p.d) :: ftLeast b g p.ts)
def ftS (b g : Int) (p : FT) : FT := ⟨CM.rd p.d (5 : Nat), ftNow b g p, p.ts ++ [ftNow b g p]⟩
def ftAt (b g : Int) (d : Dice) : Nat → FT
  | 0 => ⟨CM.rd d 12, rv d 12, []⟩
  | i + 1 => ftS b g (ftAt b g d i)
theorem ftX_is {g : Int} {d : Dice} (hg : 1 ≤ g ∧ g ≤ 12) : pick d [.int 0, .int 0, .int 0, .int 1, .int g] = .int (ftX g d) ∧ 0 ≤ ftX g d ∧ ftX g d ≤ 12 := by
  have h := pick_mem (d := d) (xs := [.int 0, .int 0, .int 0, .int 1, .int g]) (List.cons_ne_nil _ _)
  unfold ftX
  generalize pick d [.int 0, .int 0, .int 0, .int 1, .int g] = y at h ⊢
  simp only [List.mem_cons, List.not_mem_nil, or_false] at h
  rcases h with h | h | h | h | h <;> subst h
  · exact ⟨rfl, by decide, by decide⟩
  · exact ⟨rfl, by decide, by decide⟩
  · exact ⟨rfl, by decide, by decide⟩
  · exact ⟨rfl, by decide, by decide⟩
  · exact ⟨rfl, by show 0 ≤ g; omega, hg.2⟩
structure FOk (b g n : Int) (i : Nat) (p : FT) : Prop where
  d : DOk (n + 1 + i) p.d
  l : p.ts.length = i
  n0 : 0 ≤ p.now
  n1 : p.now ≤ 11 + 12 * i
  le : ∀ j, j < i → p.ts.getD j 0 ≤ p.now
  lo : ∀ j, j < i → 0 ≤ p.ts.getD j 0
  hi : ∀ j, j < i → p.ts.getD j 0 ≤ 23 + 12 * j
  k : Kp b g p.ts
theorem snoc_getD {ts : List Int} {x : Int} {j : Nat} : (ts ++ [x]).getD j 0 = if j < ts.length then ts.getD j 0 else if j = ts.length then x else 0 := by
  rw [List.getD_eq_getElem?_getD, List.getD_eq_getElem?_getD]
  by_cases c : j < ts.length
  · rw [List.getElem?_append_left c, if_pos c]
  · rw [List.getElem?_append_right (by omega), if_neg c]
    by_cases e : j = ts.length
    · subst e; simp
    · rw [if_neg e, List.getElem?_eq_none (by simp; omega)]; rfl
theorem ft_ok {b g n : Int} {d : Dice} (hd : DOk n d) (hb : 1 ≤ b) (hg : 1 ≤ g ∧ g ≤ 12) : ∀ i, FOk b g n i (ftAt b g d i)
  | 0 => by
    have h0 := rv0 (d := d) (t := 12) (by decide)
    have h1 := rv1 (d := d) (t := 12) (by decide)
    exact ⟨hd.rd.up (by omega), rfl, h0, by show rv d 12 ≤ _; omega, fun j h => by omega, fun j h => by omega, fun j h => by omega, fun i j _ h => by simp [ftAt] at h, fun i j _ h => by simp [ftAt] at h⟩
  | i + 1 => by
    have q := ft_ok (b := b) (g := g) hd hb hg i
    obtain ⟨_, x0, x1⟩ := ftX_is (d := (ftAt b g d i).d) hg
    show FOk b g n (i + 1) (ftS b g (ftAt b g d i))
    generalize ftAt b g d i = p at q x0 x1 ⊢
    have hne : (p.now + ftX g p.d) :: ftLeast b g p.ts ≠ [] := List.cons_ne_nil _ _
    have g1 : p.now + ftX g p.d ≤ ftNow b g p := lmax_ge List.mem_cons_self
    have g2 : ∀ j, j < i → p.ts.getD j 0 + ((i : Int) + 1 - j - b) * g ≤ ftNow b g p := fun j hj => lmax_ge (List.mem_cons_of_mem _ (List.mem_map.mpr ⟨j, by rw [List.mem_range, q.l]; exact hj, by rw [q.l]⟩))
    have g3 : ftNow b g p ≤ 23 + 12 * i := by
      have hm := lmax_mem hne
      rcases List.mem_cons.mp hm with h | h
      · have := q.n1
        show lmax _ ≤ _
        rw [h]; omega
      · obtain ⟨j, hj, e⟩ := List.mem_map.mp h
        rw [List.mem_range, q.l] at hj
        show lmax _ ≤ _
        rw [← e, q.l]
        have h1 := q.hi j hj
        have h2 : ((i : Int) + 1 - (j : Nat) - b) * g ≤ ((i : Int) - (j : Nat)) * 12 := by
          have a1 : ((i : Int) + 1 - (j : Nat) - b) * g ≤ ((i : Int) - (j : Nat)) * g := Int.mul_le_mul_of_nonneg_right (by omega) (by omega)
          have a2 : ((i : Int) - (j : Nat)) * g ≤ ((i : Int) - (j : Nat)) * 12 := Int.mul_le_mul_of_nonneg_left hg.2 (by omega)
          omega
        omega
    have q0 := q.n0
    have ql := q.l
    have gd : ∀ j, (ftS b g p).ts.getD j 0 = if j < i then p.ts.getD j 0 else if j = i then ftNow b g p else 0 := fun j => by
      show (p.ts ++ [ftNow b g p]).getD j 0 = _
      rw [snoc_getD, q.l]
    have ln : (ftS b g p).ts.length = i + 1 := by show (p.ts ++ [ftNow b g p]).length = _; simp [q.l]
    have nw : (ftS b g p).now = ftNow b g p := rfl
    refine ⟨(q.d.rd).up (by omega), ln, by rw [nw]; omega, by rw [nw]; omega, fun j hj => ?_, fun j hj => ?_, fun j hj => ?_, fun a j haj hj => ?_, fun a j haj hj => ?_⟩
    · rw [gd, nw]
      by_cases c : j < i
      · rw [if_pos c]; have := q.le j c; omega
      · rw [if_neg c, if_pos (by omega)]; exact Int.le_refl _
    · rw [gd]
      by_cases c : j < i
      · rw [if_pos c]; exact q.lo j c
      · rw [if_neg c, if_pos (by omega)]; omega
    · rw [gd]
      by_cases c : j < i
      · rw [if_pos c]; exact q.hi j c
      · rw [if_neg c, if_pos (by omega)]
        rw [show j = i by omega]; exact g3
    · rw [ln] at hj
      rw [gd, gd]
      by_cases c : j < i
      · rw [if_pos c, if_pos (by omega)]
        exact q.k.s a j haj (by rw [q.l]; exact c)
      · rw [if_neg c, if_pos (by omega : j = i)]
        by_cases c2 : a < i
        · rw [if_pos c2]; have := q.le a c2; omega
        · rw [if_neg c2, if_pos (by omega)]; exact Int.le_refl _
    · rw [ln] at hj
      rw [gd, gd]
      by_cases c : j < i
      · rw [if_pos c, if_pos (by omega)]
        exact q.k.k a j haj (by rw [q.l]; exact c)
      · rw [if_neg c, if_pos (by omega : j = i)]
        have ej : j = i := by omega
        subst ej
        by_cases c2 : a < j
        · rw [if_pos c2]; exact g2 a c2
        · rw [if_neg c2, if_pos (by omega), show a = j by omega]
          have : ((j : Int) + 1 - j - b) * g ≤ 0 := by
            have : ((j : Int) + 1 - j - b) * g ≤ 0 * g := Int.mul_le_mul_of_nonneg_right (by omega) (by omega)
            omega
          omega
/-! ### the longest times -/
def dlyO (c : Nat) (w e g : Int) (many : Nat) : Option Int := if (c : Int) * g < w then none else some (lmax ((DL.upTo 0 e.toNat).map fun s => bw c w e g many (ofInt s)))
def oD : Option Int → D
  | none => .none
  | some n => .int n
theorem lmax_const {l : List Int} {m : Int} (h : ∀ y ∈ l, y ≤ m) (hn : l ≠ []) : lmax l ≤ m := h _ (lmax_mem hn)
/-- the law's own: the most of all phases, from 0 on -/
theorem fold_lmax : ∀ {l : List Int}, l ≠ [] → (∀ y ∈ l, 0 ≤ y) → l.foldl max 0 = lmax l := by
  intro l hn h0
  have e : l.foldl max 0 = lmax (0 :: l) := by
    show _ = (0 :: l).foldl max 0
    show _ = l.foldl max (max 0 0)
    rw [show max (0 : Int) 0 = 0 from by decide]
  rw [e]
  refine lmax_spec _ _ (List.mem_cons_of_mem _ (lmax_mem hn)) fun y hy => ?_
  rcases List.mem_cons.mp hy with rfl | hy
  · exact h0 _ (lmax_mem hn)
  · exact lmax_ge hy
theorem upTo_ints {n : Nat} (f : Int → Int) : (DL.upTo 0 n).map (fun s => f (ofInt s)) = (List.range n).map fun i => f (i : Nat) := by
  unfold DL.upTo
  rw [List.map_map]
  apply List.map_congr_left
  intro i _
  show f (0 + (i : Int)) = f i
  rw [Int.zero_add]
theorem lw_dly {c : Nat} {w e g : Int} {many : Nat} (hm : 0 < many) (hc : 0 < c) (hc4 : c ≤ 4) (he : 0 < e) (he2 : e ≤ 12) (hg : 0 < g) (hw : 0 < w) (hcg : w ≤ c * g) : ((List.range e.toNat).map fun i => lw c w e g many (i : Nat)).foldl max 0 = lmax ((DL.upTo 0 e.toNat).map fun s => bw c w e g many (ofInt s)) := by
  rw [upTo_ints]
  have : ((List.range e.toNat).map fun i => lw c w e g many (i : Nat)) = (List.range e.toNat).map fun i => bw c w e g many (i : Nat) := List.map_congr_left fun i _ => lw_bw hm hc hc4 he he2 hg (by omega) hcg
  rw [this]
  refine fold_lmax (fun z => ?_) fun y hy => ?_
  · have := congrArg List.length z
    simp at this
    omega
  · obtain ⟨i, _, rfl⟩ := List.mem_map.mp hy
    rw [← lw_bw hm hc hc4 he he2 hg (by omega) hcg]
    have := lw_pos (w := w) (e := e) (g := g) (ph := (i : Nat)) hm hc he hg hw
    omega
/-- no drawn faults wait longer -/
theorem drawn_most {c many : Nat} {w e g W : Int} {ts : List Int} (hm : 0 < many) (hc : 0 < c) (hc4 : c ≤ 4) (he : 0 < e) (he2 : e ≤ 12) (hg : 0 < g) (hw : 0 < w) (hcg : w ≤ c * g) (hk : Kp many g ts) (h0 : ∀ i, i < ts.length → 0 ≤ ts.getD i 0) (hl : ts.length ≤ 72) (hW : dlyO c w e g many = some W) : ∀ x ∈ waits c w e ts, x ≤ W := by
  intro x hx
  obtain ⟨j, hj, rfl⟩ := List.mem_iff_getElem.mp hx
  rw [waits_len] at hj
  have h1 := wait_most (w := w) (e := e) hm hc he hg (by omega) hk h0 hj (by omega)
  have hjw : j < (waits c w e ts).length := by rw [waits_len]; exact hj
  rw [List.getD_eq_getElem?_getD, List.getElem?_eq_getElem hjw] at h1
  simp only [Option.getD_some] at h1
  unfold dlyO at hW
  rw [if_neg (by omega)] at hW
  cases hW
  have m1 := Int.emod_nonneg (ts.getD j 0) (show e ≠ 0 by omega)
  have m2 := Int.emod_lt_of_pos (ts.getD j 0) he
  rw [lw_bw hm hc hc4 he he2 hg (by omega) hcg] at h1
  refine Int.le_trans h1 (lmax_ge ?_)
  rw [upTo_ints, List.mem_map]
  refine ⟨(ts.getD j 0 % e).toNat, by rw [List.mem_range]; omega, ?_⟩
  congr 1
  omega
def darkO (c : Nat) (w e b g lamps : Int) : Option Int := (dlyO c w e g (max 1 (b - lamps + 1)).toNat).map fun found => max 0 (found - max 0 (lamps - b) * g)
end M06

namespace CM
open PySem PySem.Spec PyProof.Rows L2 DL M06
variable {K : PySem.W.Frag} {C : Str → Addr} {T : List (Addr × Str)} {E : XK}
/-! ### the longest wait -/
inductive R_period_of (K : PySem.W.Frag) (C : Str → Addr) (T : List (Addr × Str)) : FR
  | mk {e gp : Int} {g} (h : 0 < e) (h1 : e ≤ 12) (h2 : 0 < gp) (h3 : gp ≤ 12) : R_period_of K C T ⟨[.dat (.int e), .dat (.int gp)], g⟩ (.rt (.int (per e gp)) ⟨[.dat (.int e), .dat (.int gp)], g⟩)
inductive R_lead_period (K : PySem.W.Frag) (C : Str → Addr) (T : List (Addr × Str)) : FR
  | mk {v fs} {w e gp s : Int} {g} (h : 0 < e) (h1 : e ≤ 12) (h2 : 0 < gp) (h3 : gp ≤ 12) (h4 : fs ≠ []) (h5 : fs.length ≤ 100) (h6 : 0 ≤ s) (h7 : s ≤ 1000) : R_lead_period K C T ⟨[.res (lstR K (some v) (fs.map PyData.int)), .dat (.int w), .dat (.int e), .dat (.int gp), .dat (.int s)], g⟩ (.ro (lstR K none ((leadF w e gp s fs).map PyData.int)) ⟨[.res (lstR K (some v) (fs.map PyData.int)), .dat (.int w), .dat (.int e), .dat (.int gp), .dat (.int s)], g⟩)
inductive R_busy_at (K : PySem.W.Frag) (C : Str → Addr) (T : List (Addr × Str)) : FR
  | mk {c : Nat} {w e gp s : Int} {g} (hc : 0 < c) (hc4 : c ≤ 4) (h : 0 < e) (h1 : e ≤ 12) (h2 : 0 < gp) (h3 : gp ≤ 12) (hw : 0 ≤ w) (hcg : w ≤ c * gp) (h6 : 0 ≤ s) (h7 : s ≤ 1000) : R_busy_at K C T ⟨[.dat (.int c), .dat (.int w), .dat (.int e), .dat (.int gp), .dat (.int s)], g⟩ (.ro (lstR K none ((busyF c w e gp s).map PyData.int)) ⟨[.dat (.int c), .dat (.int w), .dat (.int e), .dat (.int gp), .dat (.int s)], g⟩)
inductive R_burst_wait (K : PySem.W.Frag) (C : Str → Addr) (T : List (Addr × Str)) : FR
  | mk {c many : Nat} {w e gp s : Int} {g} (hm : 0 < many) (hm2 : many ≤ 100) (hc : 0 < c) (hc4 : c ≤ 4) (h : 0 < e) (h1 : e ≤ 12) (h2 : 0 < gp) (h3 : gp ≤ 12) (hw : 0 ≤ w) (hcg : w ≤ c * gp) (h6 : 0 ≤ s) (h7 : s ≤ 1000) : R_burst_wait K C T ⟨[.dat (.int c), .dat (.int w), .dat (.int e), .dat (.int gp), .dat (.int many), .dat (.int s)], g⟩ (.rt (.int (bw c w e gp many s)) ⟨[.dat (.int c), .dat (.int w), .dat (.int e), .dat (.int gp), .dat (.int many), .dat (.int s)], g⟩)
inductive R_delay_of (K : PySem.W.Frag) (C : Str → Addr) (T : List (Addr × Str)) : FR
  | mk {c many : Nat} {w e gp : Int} {g} (hm : 0 < many) (hm2 : many ≤ 100) (hc : 0 < c) (hc4 : c ≤ 4) (h : 0 < e) (h1 : e ≤ 12) (h2 : 0 < gp) (h3 : gp ≤ 12) (hw : 0 ≤ w) : R_delay_of K C T ⟨[.dat (.int c), .dat (.int w), .dat (.int e), .dat (.int gp), .dat (.int many)], g⟩ (.rt (oD (dlyO c w e gp many)) ⟨[.dat (.int c), .dat (.int w), .dat (.int e), .dat (.int gp), .dat (.int many)], g⟩)
/-- the first name of a plan's crews that is not as told -/
def chk5 (a b c d e : D) : Option Str := if isIn a 1 4 = false then some "crews" else if isIn b 1 12 = false then some "work" else if isIn c 1 12 = false then some "every" else if isIn d 1 6 = false then some "burst" else if isIn e 1 12 = false then some "gap" else none
inductive R_demand_all (K : PySem.W.Frag) (C : Str → Addr) (T : List (Addr × Str)) : FR
  | ok {x1 x2 x3 x4 x5 g} (n1 : noScr x1 = true) (n2 : noScr x2 = true) (n3 : noScr x3 = true) (n4 : noScr x4 = true) (n5 : noScr x5 = true) (h : chk5 x1 x2 x3 x4 x5 = none) : R_demand_all K C T ⟨[.dat x1, .dat x2, .dat x3, .dat x4, .dat x5], g⟩ (.rt .none ⟨[.dat x1, .dat x2, .dat x3, .dat x4, .dat x5], g⟩)
  | no {x1 x2 x3 x4 x5 x g} (n1 : noScr x1 = true) (n2 : noScr x2 = true) (n3 : noScr x3 = true) (n4 : noScr x4 = true) (n5 : noScr x5 = true) (h : chk5 x1 x2 x3 x4 x5 = some x) : R_demand_all K C T ⟨[.dat x1, .dat x2, .dat x3, .dat x4, .dat x5], g⟩ (.ex (C "BadArgument") "name" (.str x) ⟨[.dat x1, .dat x2, .dat x3, .dat x4, .dat x5], g⟩)
def t_period_of (K : PySem.W.Frag) (C : Str → Addr) (T : List (Addr × Str)) (E : XK) : TS :=
  (tSeq (tAsg (tVar 1) (gName 2))
    (tSeq (tWhile (tTest (tOp (rD2 K eqOk neD) (tOp (rD2 K modOk modD) (tVar 2) (tVar 0)) (tC (.int 0)))) (tAug 2 (tVar 1) (ipI fun i j => i + j)))
    (tRet (tVar 2))))
def t_lead_period (K : PySem.W.Frag) (C : Str → Addr) (T : List (Addr × Str)) (E : XK) : TS :=
  (tSeq (tAsg (tCall (spF K (R_period_of K C T)) [] E (tCons (tVar 2) (tCons (tVar 3) tNil))) (gName 5))
    (tSeq (tAsg (tCB (rDl K seqOk itemsD) (tCons (tVar 0) tNil)) (gName 6))
    (tSeq (tFor (iRng3 (tCons (tVar 4) (tCons (tOp (rD2 K addOk addD) (tVar 4) (tVar 5)) (tCons (tVar 3) tNil)))) (gName 7) (tDrop (tCall (spF K (R_serve K C T)) [] E (tCons (tVar 6) (tCons (tVar 1) (tCons (tCall (spF K (R_read_at K C T)) [] E (tCons (tVar 2) (tCons (tVar 7) tNil))) tNil))))))
    (tRet (tCB (rDl K sortOkV sortLV) (tCons (tLc (iSeq K (tVar 6)) (gName 7) tYes (tCB (rDn K mmOk maxD) (tCons (tVar 4) (tCons (tOp (rD2 K subOk subD) (tVar 7) (tVar 5)) tNil))) [7]) tNil))))))
def t_busy_at (K : PySem.W.Frag) (C : Str → Addr) (T : List (Addr × Str)) (E : XK) : TS :=
  (tSeq (tAsg (tLc (iRng1 (tCons (tVar 0) tNil)) (gName 7) tYes (tVar 4) [7]) (gName 5))
    (tWhile (tB (tC (.bl true))) (tSeq (tAsg (tCall (spF K (R_lead_period K C T)) [] E (tCons (tVar 5) (tCons (tVar 1) (tCons (tVar 2) (tCons (tVar 3) (tCons (tVar 4) tNil)))))) (gName 6))
    (tSeq (tIfS (tTest (tOp (rD2 K eqOk eqD) (tVar 6) (tVar 5))) (tRet (tVar 5)) tNext)
    (tAsg (tVar 6) (gName 5))))))
def t_burst_wait (K : PySem.W.Frag) (C : Str → Addr) (T : List (Addr × Str)) (E : XK) : TS :=
  (tSeq (tAsg (tCall (spF K (R_busy_at K C T)) [] E (tCons (tVar 0) (tCons (tVar 1) (tCons (tVar 2) (tCons (tVar 3) (tCons (tVar 5) tNil)))))) (gName 6))
    (tSeq (tFor (iRng1 (tCons (tVar 4) tNil)) (gName 7) (tAsg (tCall (spF K (R_serve K C T)) [] E (tCons (tVar 6) (tCons (tVar 1) (tCons (tCall (spF K (R_read_at K C T)) [] E (tCons (tVar 2) (tCons (tVar 5) tNil))) tNil)))) (gName 8)))
    (tRet (tOp (rD2 K subOk subD) (tVar 8) (tVar 5)))))
def t_delay_of (K : PySem.W.Frag) (C : Str → Addr) (T : List (Addr × Str)) (E : XK) : TS :=
  (tSeq (tIfS (tTest (tOp (rD2 K ltXOk ltXD) (tOp (rD2 K mulOkV mulD) (tVar 0) (tVar 3)) (tVar 1))) (tRet (tC .non)) tNext)
    (tRet (tCB (rDn K mmOk maxD) (tCons (tLc (iRng1 (tCons (tVar 2) tNil)) (gName 5) tYes (tCall (spF K (R_burst_wait K C T)) [] E0 (tCons (tVar 0) (tCons (tVar 1) (tCons (tVar 2) (tCons (tVar 3) (tCons (tVar 4) (tCons (tVar 5) tNil))))))) [5]) tNil))))
def t_demand_all (K : PySem.W.Frag) (C : Str → Addr) (T : List (Addr × Str)) (E : XK) : TS :=
  (tSeq (tDrop (tCall (spF K (R_demand K C T)) [] E (tCons (tCall (spF K (R_is_in K C T)) [] E (tCons (tVar 0) (tCons (tC (.int 1)) (tCons (tC (.int 4)) tNil)))) (tCons (tC (.str "crews")) tNil))))
    (tSeq (tDrop (tCall (spF K (R_demand K C T)) [] E (tCons (tCall (spF K (R_is_in K C T)) [] E (tCons (tVar 1) (tCons (tC (.int 1)) (tCons (tC (.int 12)) tNil)))) (tCons (tC (.str "work")) tNil))))
    (tSeq (tDrop (tCall (spF K (R_demand K C T)) [] E (tCons (tCall (spF K (R_is_in K C T)) [] E (tCons (tVar 2) (tCons (tC (.int 1)) (tCons (tC (.int 12)) tNil)))) (tCons (tC (.str "every")) tNil))))
    (tSeq (tDrop (tCall (spF K (R_demand K C T)) [] E (tCons (tCall (spF K (R_is_in K C T)) [] E (tCons (tVar 3) (tCons (tC (.int 1)) (tCons (tC (.int 6)) tNil)))) (tCons (tC (.str "burst")) tNil))))
    (tDrop (tCall (spF K (R_demand K C T)) [] E (tCons (tCall (spF K (R_is_in K C T)) [] E (tCons (tVar 4) (tCons (tC (.int 1)) (tCons (tC (.int 12)) tNil)))) (tCons (tC (.str "gap")) tNil))))))))
theorem rd_period_of {e gp : Int} {g} (h : 0 < e) (h1 : e ≤ 12) (h2 : 0 < gp) (h3 : gp ≤ 12) : Run K E (t_period_of K C T E) ⟨[.dat (.int e), .dat (.int gp), .unk], g⟩ (.rt (.int (per e gp)) ⟨[.dat (.int e), .dat (.int gp), .dat (.int (per e gp))], g⟩) := by
  walk_at "s"
  apply run_seq
  · refine run_whileP (fun i => ⟨[.dat (.int e), .dat (.int gp), .dat (.int (gp * ((i : Nat) + 1)))], g⟩) (perI e gp) (Fo.le (by apply Fo.same; apply Fo.same; apply Fo.int (by simp); exact Fo.nil)) (fun i hi => ⟨?_, ?_⟩) ?_
    · apply EvT.to
      · walk_at "et"
      · have := per_first hi
        simp [this]
    · refine run_le (run_aug rfl (ev_var rfl)) ?_
      walk_at "d"
      refine Fo.le ?_
      apply Fo.same; apply Fo.same
      refine Fo.int ?_ Fo.nil
      have e2 : (((i + 1 : Nat) : Int) + 1) = ((i : Int) + 1) + 1 := by omega
      rw [e2, Int.mul_add gp ((i : Int) + 1) 1, Int.mul_one]
    · apply EvT.to
      · walk_at "et"
      · have := per_dvd (g := gp) h
        unfold per perN at this
        simp at this ⊢
        exact this
  · refine run_retle (Ev.to (ev_var rfl) ?_) ?_
    · unfold per perN; simp
    · refine Fo.le ?_
      apply Fo.same; apply Fo.same
      refine Fo.int ?_ Fo.nil
      unfold per perN; simp

theorem eo_sortL {te : TE} {s s1 : S} {ns : List Int} (h : Ev K te s (.list (ns.map PyData.int)) s1) : EvO K (tCB (rDl K sortOkV sortLV) (tCons te tNil)) s (lstR K none ((sortI ns).map PyData.int)) s1 := by
  have q := eo_cl (K := K) (ok := sortOkV) (f := sortLV) (ea_cons h ea_nil) (by show (intsOf _).isSome = true; rw [intsOf_map]; rfl)
  have e2 : sortLV [.list (ns.map PyData.int)] = (sortI ns).map PyData.int := by simp [sortLV, intsOf_map]
  rw [e2] at q
  exact q
theorem per_pos {e gp : Int} (h : 0 < e) (h1 : e ≤ 12) (h2 : 0 < gp) (h3 : gp ≤ 12) : 0 < per e gp ∧ per e gp ≤ 144 ∧ per e gp = (perN e gp : Nat) * gp := by
  have h4 := perN_le (g := gp) h
  have h5 : perN e gp = perI e gp + 1 := rfl
  have e1 : per e gp = (perN e gp : Nat) * gp := by unfold per; rw [Int.mul_comm]
  have a1 : ((perN e gp : Nat) : Int) * gp ≤ 12 * gp := Int.mul_le_mul_of_nonneg_right (by omega) (by omega)
  have a2 : 1 * gp ≤ ((perN e gp : Nat) : Int) * gp := Int.mul_le_mul_of_nonneg_right (by omega) (by omega)
  omega
theorem frF_ne {w : Int} : ∀ (ts : List Int) {fs : List Int}, fs ≠ [] → ts.foldl (CM.freeOf w) fs ≠ []
  | [], _, h => h
  | t :: ts, fs, h => frF_ne ts (by
    intro z
    have := congrArg List.length z
    unfold CM.freeOf at this
    rw [List.length_set] at this
    exact h (List.length_eq_zero_iff.mp this))
theorem frF_len {w : Int} : ∀ (ts : List Int) {fs : List Int}, (ts.foldl (CM.freeOf w) fs).length = fs.length
  | [], _ => rfl
  | t :: ts, fs => (frF_len ts).trans (by unfold CM.freeOf; rw [List.length_set])
theorem rd_lead_period {ov : Option V} {fs : List Int} {w e gp s : Int} {g} (h : 0 < e) (h1 : e ≤ 12) (h2 : 0 < gp) (h3 : gp ≤ 12) (h4 : fs ≠ []) (h5 : fs.length ≤ 100) (h6 : 0 ≤ s) (h7 : s ≤ 1000) :
    Run K E (t_lead_period K C T E) ⟨[.res (lstR K ov (fs.map PyData.int)), .dat (.int w), .dat (.int e), .dat (.int gp), .dat (.int s), .unk, .unk, .unk], g⟩ (.ro (lstR K none ((leadF w e gp s fs).map PyData.int)) ⟨[.res (lstR K ov (fs.map PyData.int)), .unk, .unk, .unk, .unk, .unk, .unk, .unk], g⟩) := by
  obtain ⟨p0, p1, p2⟩ := per_pos h h1 h2 h3
  apply run_seq
  · apply run_asg
    exact ev_call (ea_cons (ev_var rfl) (ea_cons (ev_var rfl) ea_nil)) (.mk h h1 h2 h3)
  walk_at "d"
  apply run_seq
  · apply run_asgO
    exact eo_cl1 rfl trivial
  walk_at "d"
  apply run_seq
  · refine run_for (fun i => ⟨[.res (lstR K ov (fs.map PyData.int)), .dat (.int w), .dat (.int e), .dat (.int gp), .dat (.int s), .dat (.int (per e gp)), .res (lstR K none ((((tks e gp s).take i).foldl (CM.freeOf w) fs).map PyData.int)), .unk], g⟩) (s1 := ⟨[.res (lstR K ov (fs.map PyData.int)), .dat (.int w), .dat (.int e), .dat (.int gp), .dat (.int s), .dat (.int (per e gp)), .res (lstR K none (fs.map PyData.int)), .unk], g⟩) (ds := DL.upBy s gp (perN e gp)) ?_ (Fo.le (by walk_at "fo")) fun i d hd => ?_
    · refine it_rng3 (ev_var rfl) (ev_addI (ev_var rfl) (ev_var rfl)) (ev_var rfl) ?_
      rw [p2]
      exact rgC_up h2 (by omega) (by omega) (by omega) (by omega)
    · obtain ⟨hi, rfl⟩ := upBy_get hd
      have ht : (tks e gp s)[i]? = some (rdAt e (s + (i : Nat) * gp)) := by unfold tks; rw [List.getElem?_map, List.getElem?_range hi]; rfl
      refine ⟨_, tg_name, ?_⟩
      walk_at "d"
      rw [fold_at ht]
      refine run_le (run_drop (ev_callL (s1 := ⟨[.res (lstR K ov (fs.map PyData.int)), .dat (.int w), .dat (.int e), .dat (.int gp), .dat (.int s), .dat (.int (per e gp)), .res (lstR K none ((((tks e gp s).take i).foldl (CM.freeOf w) fs).map PyData.int)), .dat (.int (s + (i : Nat) * gp))], g⟩) (es2 := (CM.freeOf w (((tks e gp s).take i).foldl (CM.freeOf w) fs) (rdAt e (s + (i : Nat) * gp))).map PyData.int) rfl (ea_cons (ev_var rfl) (ea_cons (ev_call (ea_cons (ev_var rfl) (ea_cons (ev_var rfl) ea_nil)) (.mk h (by omega))) ea_nil)) rfl fun v => .mk (frF_ne _ h4))) ?_
      walk_at "d"
      exact Fo.le (by walk_at "fo")
  rw [show (DL.upBy s gp (perN e gp)).length = (tks e gp s).length by rw [upBy_len, tks_len], List.take_length]
  refine run_frz (i := 6) rfl ?_
  walk_at "d"
  apply run_role
  · apply run_retO
    show EvO K _ _ (lstR K none ((sortI (((tks e gp s).foldl (CM.freeOf w) fs).map fun t => max s (t - per e gp))).map PyData.int)) _
    apply eo_sortL
    refine Ev.to (ev_lcM (ds := ((tks e gp s).foldl (CM.freeOf w) fs).map PyData.int) (fun d => .int (max s (ofInt d - per e gp))) (it_seq (ev_var rfl) rfl) (by rw [List.length_map, frF_len]; exact le_size (by omega)) (by walk_at "nr") fun d hd => ?_) (by rw [List.map_map, List.map_map]; rfl)
    obtain ⟨x, _, rfl⟩ := List.mem_map.mp hd
    refine ⟨_, by walk_at "tv", ?_, ?_⟩
    · walk_at "w"
      exact Fo.le (by walk_at "fo")
    · walk_at "w"
      exact ev_maxI (ev_var rfl) (ev_subI (ev_var rfl) (ev_var rfl))
  · exact Fo.le (by walk_at "fo")

theorem eo_same {c : Nat} {x : Int} {n : Int} {i : Nat} {s : S} {tn : TE} {te : TE} (hn : Ev K tn s (.int n) s) (hc : n = c) (h1 : c ≤ 1000) (hr : NoRes s [i]) (hx : ∀ y, Ev K te (s.wipe [i] |>.set i (.dat (.int y))) (.int x) (s.wipe [i] |>.set i (.dat (.int y)))) (hw : ∀ y, SLe (((s.wipe [i]).set i (.dat (.int y))).wipe [i]) (s.wipe [i])) : EvO K (tLc (iRng1 (tCons tn tNil)) (gName i) tYes te [i]) s (lstR K none ((List.replicate c x).map PyData.int)) s := by
  subst hc
  have q := eo_lc (K := K) (te := te) (tt := tYes) (g := gName i) (fun _ => true) (fun _ => .int x) (it_r1 hn (by omega)) (by rw [upTo_len]; exact le_size (by omega)) hr (fun y hy => by
    obtain ⟨j, _, rfl⟩ := upTo_mem.mp hy
    exact ⟨_, tv_name (by simp), hw _, et_yes, fun _ => hx _⟩)
  have e0 : ((DL.upTo 0 (c : Int).toNat).filter fun _ => true).map (fun _ => PyData.int x) = (List.replicate c x).map PyData.int := by
    rw [List.filter_eq_self.mpr (fun _ _ => rfl), Int.toNat_natCast, List.map_replicate]
    unfold DL.upTo
    rw [List.map_map]
    apply List.ext_getElem?
    intro i
    by_cases c : i < c
    · rw [List.getElem?_map, List.getElem?_range c, List.getElem?_replicate_of_lt c]; rfl
    · rw [List.getElem?_eq_none (by simp; omega), List.getElem?_eq_none (by simp; omega)]
  rw [e0] at q
  exact q
theorem rd_busy_at {c : Nat} {w e gp s : Int} {g} (hc : 0 < c) (hc4 : c ≤ 4) (h : 0 < e) (h1 : e ≤ 12) (h2 : 0 < gp) (h3 : gp ≤ 12) (hw : 0 ≤ w) (hcg : w ≤ c * gp) (h6 : 0 ≤ s) (h7 : s ≤ 1000) :
    Run K E (t_busy_at K C T E) ⟨[.dat (.int c), .dat (.int w), .dat (.int e), .dat (.int gp), .dat (.int s), .unk, .unk, .unk], g⟩ (.ro (lstR K none ((busyF c w e gp s).map PyData.int)) ⟨[.unk, .unk, .unk, .unk, .unk, .unk, .unk, .unk], g⟩) := by
  have len := fun n => fseq_len (s := s) hc h h2 hw n
  have ne : ∀ n, fseq c w e gp s n ≠ [] := fun n z => by have := len n; rw [z] at this; simp at this; omega
  apply run_seq
  · apply run_asgO
    refine eo_same (c := c) (x := s) (ev_var rfl) rfl (by omega) (by walk_at "nr") (fun y => ?_) (fun y => ?_)
    · walk_at "w"; exact ev_var rfl
    · walk_at "w"; exact Fo.le (by walk_at "fo")
  walk_at "d"
  have lead : ∀ i, Run K E (tAsg (tCall (spF K (R_lead_period K C T)) [] E (tCons (tVar 5) (tCons (tVar 1) (tCons (tVar 2) (tCons (tVar 3) (tCons (tVar 4) tNil)))))) (gName 6)) ⟨[.dat (.int c), .dat (.int w), .dat (.int e), .dat (.int gp), .dat (.int s), .res (lstR K none ((fseq c w e gp s i).map PyData.int)), .unk, .unk], g⟩ (.nx ⟨[.dat (.int c), .dat (.int w), .dat (.int e), .dat (.int gp), .dat (.int s), .res (lstR K none ((fseq c w e gp s i).map PyData.int)), .res (lstR K none ((fseq c w e gp s (i + 1)).map PyData.int)), .unk], g⟩) := by
    intro i
    apply run_asgO (s1 := ⟨[.dat (.int c), .dat (.int w), .dat (.int e), .dat (.int gp), .dat (.int s), .res (lstR K none ((fseq c w e gp s i).map PyData.int)), .unk, .unk], g⟩)
    exact eo_callL (s1 := ⟨[.dat (.int c), .dat (.int w), .dat (.int e), .dat (.int gp), .dat (.int s), .res (lstR K none ((fseq c w e gp s i).map PyData.int)), .unk, .unk], g⟩) rfl (ea_cons (ev_var rfl) (ea_cons (ev_var rfl) (ea_cons (ev_var rfl) (ea_cons (ev_var rfl) ea_nil)))) rfl fun v => .mk h h1 h2 h3 (ne i) (by rw [len]; omega) h6 h7
  have eq : ∀ i, EvT K (tTest (tOp (rD2 K eqOk eqD) (tVar 6) (tVar 5))) ⟨[.dat (.int c), .dat (.int w), .dat (.int e), .dat (.int gp), .dat (.int s), .res (lstR K none ((fseq c w e gp s i).map PyData.int)), .res (lstR K none ((fseq c w e gp s (i + 1)).map PyData.int)), .unk], g⟩ (decide (fseq c w e gp s (i + 1) = fseq c w e gp s i)) ⟨[.dat (.int c), .dat (.int w), .dat (.int e), .dat (.int gp), .dat (.int s), .res (lstR K none ((fseq c w e gp s i).map PyData.int)), .res (lstR K none ((fseq c w e gp s (i + 1)).map PyData.int)), .unk], g⟩ := by
    intro i
    rw [← eqv_intL]
    exact et_test (ev_opOO rfl rfl ⟨okL _, okL _⟩)
  refine run_whileG (fun i => ⟨[.dat (.int c), .dat (.int w), .dat (.int e), .dat (.int gp), .dat (.int s), .res (lstR K none ((fseq c w e gp s i).map PyData.int)), .unk, .unk], g⟩) (fun i => ⟨[.dat (.int c), .dat (.int w), .dat (.int e), .dat (.int gp), .dat (.int s), .res (lstR K none ((fseq c w e gp s i).map PyData.int)), .unk, .unk], g⟩) (s1 := ⟨[], g⟩) (busyT c w e gp s) (Fo.le (by walk_at "fo")) (fun i hi => ⟨et_B ev_bl, ?_⟩) (.inr ⟨.ro (lstR K none ((busyF c w e gp s).map PyData.int)) ⟨[.unk, .unk, .unk, .unk, .unk, .unk, .unk, .unk], g⟩, et_B ev_bl, ?_, rfl, rfl⟩)
  · refine run_seq (lead i) ?_
    have q := eq i
    rw [decide_eq_false (busy_not hi)] at q
    refine run_seq (run_no q run_next) ?_
    refine run_le (run_mov rfl lst_has (by decide)) ?_
    walk_at "d"
    exact Fo.le (by walk_at "fo")
  · refine run_seq (lead _) ?_
    have q := eq (busyT c w e gp s)
    have bf : fseq c w e gp s (busyT c w e gp s + 1) = fseq c w e gp s (busyT c w e gp s) := busy_fix hc hc4 h h1 h2 hw hcg
    rw [decide_eq_true bf] at q
    refine run_end (run_yes q (run_role (run_retV (i := 5) rfl lst_has) ?_)) rfl
    walk_at "d"
    exact Fo.le (by walk_at "fo")
theorem rd_burst_wait {c many : Nat} {w e gp s : Int} {g} (hm : 0 < many) (hm2 : many ≤ 100) (hc : 0 < c) (hc4 : c ≤ 4) (h : 0 < e) (h1 : e ≤ 12) (h2 : 0 < gp) (h3 : gp ≤ 12) (hw : 0 ≤ w) (hcg : w ≤ c * gp) (h6 : 0 ≤ s) (h7 : s ≤ 1000) :
    Run K E (t_burst_wait K C T E) ⟨[.dat (.int c), .dat (.int w), .dat (.int e), .dat (.int gp), .dat (.int many), .dat (.int s), .unk, .unk, .unk], g⟩ (.rt (.int (bw c w e gp many s)) ⟨[.unk, .unk, .unk, .unk, .unk, .unk, .unk, .unk, .unk], g⟩) := by
  have bl : (busyF c w e gp s).length = c := fseq_len hc h h2 hw _
  have hne : busyF c w e gp s ≠ [] := fun z => by rw [z] at bl; simp at bl; omega
  apply run_seq
  · apply run_asgO
    apply eo_call
    · exact ea_cons (ev_var rfl) (ea_cons (ev_var rfl) (ea_cons (ev_var rfl) (ea_cons (ev_var rfl) (ea_cons (ev_var rfl) ea_nil))))
    · exact .mk hc hc4 h h1 h2 h3 hw hcg h6 h7
  walk_at "d"
  apply run_seq
  · refine run_for (ds := DL.upTo 0 many) (fun i => ⟨[.dat (.int c), .dat (.int w), .dat (.int e), .dat (.int gp), .dat (.int many), .dat (.int s), .res (lstR K none ((((List.replicate i (rdAt e s)).foldl (stp w) (busyF c w e gp s, [])).1).map PyData.int)), .unk, if i = 0 then .unk else .dat (.int (((List.replicate i (rdAt e s)).foldl (stp w) (busyF c w e gp s, [])).2.getD (i - 1) 0))], g⟩) (s1 := ⟨[.dat (.int c), .dat (.int w), .dat (.int e), .dat (.int gp), .dat (.int many), .dat (.int s), .res (lstR K none ((busyF c w e gp s).map PyData.int)), .unk, .unk], g⟩) ?_ (Fo.le (by walk_at "fo")) fun i d hd => ?_
    · exact Int.toNat_natCast many ▸ it_r1 (n := many) (ev_var rfl) (by omega)
    · obtain ⟨hi, rfl⟩ := upTo_get hd
      have sl := stp_len (work := w) (List.replicate i (rdAt e s)) (busyF c w e gp s, [])
      rw [List.length_replicate] at sl
      have e1 : (List.replicate (i + 1) (rdAt e s)).foldl (stp w) (busyF c w e gp s, []) = stp w ((List.replicate i (rdAt e s)).foldl (stp w) (busyF c w e gp s, [])) (rdAt e s) := by
        rw [List.replicate_succ', List.foldl_append]; rfl
      have hne2 : ((List.replicate i (rdAt e s)).foldl (stp w) (busyF c w e gp s, [])).1 ≠ [] := fun z => by
        have := sl.1
        rw [z, bl] at this
        simp at this
        omega
      rw [e1]
      generalize (List.replicate i (rdAt e s)).foldl (stp w) (busyF c w e gp s, []) = p at sl hne2 ⊢
      refine ⟨_, tg_name, ?_⟩
      walk_at "d"
      have e2 : (stp w p (rdAt e s)).2.getD (i + 1 - 1) 0 = endOf w p.1 (rdAt e s) := by
        show (p.2 ++ [endOf w p.1 (rdAt e s)]).getD (i + 1 - 1) 0 = _
        have l2 : p.2.length = i := by rw [sl.2]; simp
        rw [snoc_getD, if_neg (by omega), if_pos (by omega)]
      rw [e2, if_neg (show ¬ i + 1 = 0 by omega)]
      refine run_le (run_asg (ev_callL (s1 := ⟨[.dat (.int c), .dat (.int w), .dat (.int e), .dat (.int gp), .dat (.int many), .dat (.int s), .res (lstR K none (p.1.map PyData.int)), .dat (.int (0 + (i : Int))), if i = 0 then .unk else .dat (.int (p.2.getD (i - 1) 0))], g⟩) (es2 := (CM.freeOf w p.1 (rdAt e s)).map PyData.int) rfl (ea_cons (ev_var rfl) (ea_cons (ev_call (ea_cons (ev_var rfl) (ea_cons (ev_var rfl) ea_nil)) (.mk h (by omega))) ea_nil)) rfl fun v => .mk hne2)) ?_
      walk_at "d"
      exact Fo.le (by walk_at "fo")
  rw [upTo_len, if_neg (show ¬ many = 0 by omega)]
  refine run_retle (ev_subI (ev_var rfl) (ev_var rfl)) ?_
  exact Fo.le (by walk_at "fo")
theorem rd_delay_of {c many : Nat} {w e gp : Int} {g} (hm : 0 < many) (hm2 : many ≤ 100) (hc : 0 < c) (hc4 : c ≤ 4) (h : 0 < e) (h1 : e ≤ 12) (h2 : 0 < gp) (h3 : gp ≤ 12) (hw : 0 ≤ w) :
    Run K E (t_delay_of K C T E) ⟨[.dat (.int c), .dat (.int w), .dat (.int e), .dat (.int gp), .dat (.int many), .unk], g⟩ (.rt (oD (dlyO c w e gp many)) ⟨[.unk, .unk, .unk, .unk, .unk, .unk], g⟩) := by
  have tt : EvT K (tTest (tOp (rD2 K ltXOk ltXD) (tOp (rD2 K mulOkV mulD) (tVar 0) (tVar 3)) (tVar 1))) ⟨[.dat (.int c), .dat (.int w), .dat (.int e), .dat (.int gp), .dat (.int many), .unk], g⟩ (decide ((c : Int) * gp < w)) ⟨[.dat (.int c), .dat (.int w), .dat (.int e), .dat (.int gp), .dat (.int many), .unk], g⟩ := et_test (ev_ltI (ev_mulVI (ev_var rfl) (ev_var rfl) (Or.inl ⟨by omega, by omega⟩)) (ev_var rfl))
  unfold dlyO
  by_cases hcg : (c : Int) * gp < w
  · rw [decide_eq_true hcg] at tt
    rw [if_pos hcg]
    refine run_end (run_yes tt (run_retle ev_non ?_)) rfl
    exact Fo.le (by walk_at "fo")
  · rw [decide_eq_false hcg] at tt
    rw [if_neg hcg]
    refine run_seq (run_no tt run_next) ?_
    refine run_retle ?_ (Fo.le (by walk_at "fo")) (s1 := ⟨[.dat (.int c), .dat (.int w), .dat (.int e), .dat (.int gp), .dat (.int many), .unk], g⟩)
    refine ev_maxL (ms := (DL.upTo 0 e.toNat).map fun s => bw c w e gp many (ofInt s)) (Ev.to (ev_lcM (ds := DL.upTo 0 e.toNat) (fun d => .int (bw c w e gp many (ofInt d))) (it_r1 (ev_var rfl) (by omega)) (by rw [upTo_len]; exact le_size (by omega)) (by walk_at "nr") fun d hd => ?_) (by rw [List.map_map]; rfl)) (fun z => ?_)
    · obtain ⟨i, hi, rfl⟩ := upTo_mem.mp hd
      refine ⟨_, by walk_at "tv", ?_, ?_⟩
      · walk_at "w"
        exact Fo.le (by walk_at "fo")
      · walk_at "w"
        exact ev_call (ea_cons (ev_var rfl) (ea_cons (ev_var rfl) (ea_cons (ev_var rfl) (ea_cons (ev_var rfl) (ea_cons (ev_var rfl) (ea_cons (ev_var rfl) ea_nil)))))) (.mk hm hm2 hc hc4 h h1 h2 h3 hw (by omega) (by omega) (by omega))
    · have := congrArg List.length z
      rw [List.length_map, upTo_len] at this
      simp at this
      omega
end CM

namespace CM
open PySem PySem.Spec PyProof.Rows L2 DL M06
variable {K : PySem.W.Frag} {C : Str → Addr} {T : List (Addr × Str)} {E : XK}
theorem chk5_ok {a b c d e : D} (h : chk5 a b c d e = none) : isIn a 1 4 = true ∧ isIn b 1 12 = true ∧ isIn c 1 12 = true ∧ isIn d 1 6 = true ∧ isIn e 1 12 = true := by
  unfold chk5 at h
  cases h1 : isIn a 1 4 <;> cases h2 : isIn b 1 12 <;> cases h3 : isIn c 1 12 <;> cases h4 : isIn d 1 6 <;> cases h5 : isIn e 1 12 <;> simp [h1, h2, h3, h4, h5] at h ⊢
theorem chk5_i {a b c d e : Int} (h1 : 1 ≤ a ∧ a ≤ 4) (h2 : 1 ≤ b ∧ b ≤ 12) (h3 : 1 ≤ c ∧ c ≤ 12) (h4 : 1 ≤ d ∧ d ≤ 6) (h5 : 1 ≤ e ∧ e ≤ 12) : chk5 (.int a) (.int b) (.int c) (.int d) (.int e) = none := by
  unfold chk5
  rw [isIn_i h1.1 h1.2, isIn_i h2.1 h2.2, isIn_i h3.1 h3.2, isIn_i h4.1 h4.2, isIn_i h5.1 h5.2]
  rfl
theorem rd_demand_all_ok {x1 x2 x3 x4 x5 : D} {g} (n1 : noScr x1 = true) (n2 : noScr x2 = true) (n3 : noScr x3 = true) (n4 : noScr x4 = true) (n5 : noScr x5 = true) (h : chk5 x1 x2 x3 x4 x5 = none) : Run K E (t_demand_all K C T E) ⟨[.dat x1, .dat x2, .dat x3, .dat x4, .dat x5], g⟩ (.nx ⟨[.dat x1, .dat x2, .dat x3, .dat x4, .dat x5], g⟩) := by
  obtain ⟨h1, h2, h3, h4, h5⟩ := chk5_ok h
  walk_at "s"
  walk_at "s"
  walk_at "s"
  walk_at "s"
  walk_at "st"
theorem rd_demand_all_no {x1 x2 x3 x4 x5 : D} {x : Str} {g} (n1 : noScr x1 = true) (n2 : noScr x2 = true) (n3 : noScr x3 = true) (n4 : noScr x4 = true) (n5 : noScr x5 = true) (h : chk5 x1 x2 x3 x4 x5 = some x) : Run K E (t_demand_all K C T E) ⟨[.dat x1, .dat x2, .dat x3, .dat x4, .dat x5], g⟩ (.ex (C "BadArgument") "name" (.str x) ⟨[.dat x1, .dat x2, .dat x3, .dat x4, .dat x5], g⟩) := by
  unfold chk5 at h
  cases h1 : isIn x1 1 4 with
  | false =>
    simp [h1] at h
    subst h
    walk_at "rs"
  | true =>
    walk_at "s"
    cases h2 : isIn x2 1 12 with
    | false =>
      simp [h1, h2] at h
      subst h
      walk_at "rs"
    | true =>
      walk_at "s"
      cases h3 : isIn x3 1 12 with
      | false =>
        simp [h1, h2, h3] at h
        subst h
        walk_at "rs"
      | true =>
        walk_at "s"
        cases h4 : isIn x4 1 6 with
        | false =>
          simp [h1, h2, h3, h4] at h
          subst h
          walk_at "rs"
        | true =>
          walk_at "s"
          cases h5 : isIn x5 1 12 with
          | false =>
            simp [h1, h2, h3, h4, h5] at h
            subst h
            apply run_dropX; apply er_call
            · walk_at "ea"
            · walk_at "R"
          | true => simp [h1, h2, h3, h4, h5] at h
inductive R_longest_wait (K : PySem.W.Frag) (C : Str → Addr) (T : List (Addr × Str)) : FR
  | ok {c b : Nat} {w e gp : Int} {g} (h1 : 1 ≤ c ∧ c ≤ 4) (h2 : 1 ≤ w ∧ w ≤ 12) (h3 : 1 ≤ e ∧ e ≤ 12) (h4 : 1 ≤ b ∧ b ≤ 6) (h5 : 1 ≤ gp ∧ gp ≤ 12) : R_longest_wait K C T ⟨[.dat (.int c), .dat (.int w), .dat (.int e), .dat (.int b), .dat (.int gp)], g⟩ (.rt (oD (dlyO c w e gp b)) ⟨[.dat (.int c), .dat (.int w), .dat (.int e), .dat (.int b), .dat (.int gp)], g⟩)
  | no {x1 x2 x3 x4 x5 x g} (n1 : noScr x1 = true) (n2 : noScr x2 = true) (n3 : noScr x3 = true) (n4 : noScr x4 = true) (n5 : noScr x5 = true) (h : chk5 x1 x2 x3 x4 x5 = some x) : R_longest_wait K C T ⟨[.dat x1, .dat x2, .dat x3, .dat x4, .dat x5], g⟩ (.ex (C "BadArgument") "name" (.str x) ⟨[.dat x1, .dat x2, .dat x3, .dat x4, .dat x5], g⟩)
inductive R_dark_of (K : PySem.W.Frag) (C : Str → Addr) (T : List (Addr × Str)) : FR
  | mk {c : Nat} {w e b gp l : Int} {g} (h1 : 1 ≤ c ∧ c ≤ 4) (h2 : 1 ≤ w ∧ w ≤ 12) (h3 : 1 ≤ e ∧ e ≤ 12) (h4 : 1 ≤ b ∧ b ≤ 6) (h5 : 1 ≤ gp ∧ gp ≤ 12) (h6 : 1 ≤ l ∧ l ≤ 12) : R_dark_of K C T ⟨[.dat (.int c), .dat (.int w), .dat (.int e), .dat (.int b), .dat (.int gp), .dat (.int l)], g⟩ (.rt (oD (darkO c w e b gp l)) ⟨[.dat (.int c), .dat (.int w), .dat (.int e), .dat (.int b), .dat (.int gp), .dat (.int l)], g⟩)
inductive R_longest_dark (K : PySem.W.Frag) (C : Str → Addr) (T : List (Addr × Str)) : FR
  | ok {c : Nat} {w e b gp l : Int} {g} (h1 : 1 ≤ c ∧ c ≤ 4) (h2 : 1 ≤ w ∧ w ≤ 12) (h3 : 1 ≤ e ∧ e ≤ 12) (h4 : 1 ≤ b ∧ b ≤ 6) (h5 : 1 ≤ gp ∧ gp ≤ 12) (h6 : 1 ≤ l ∧ l ≤ 12) : R_longest_dark K C T ⟨[.dat (.int c), .dat (.int w), .dat (.int e), .dat (.int b), .dat (.int gp), .dat (.int l)], g⟩ (.rt (oD (darkO c w e b gp l)) ⟨[.dat (.int c), .dat (.int w), .dat (.int e), .dat (.int b), .dat (.int gp), .dat (.int l)], g⟩)
  | no {x1 x2 x3 x4 x5 x6 x g} (n1 : noScr x1 = true) (n2 : noScr x2 = true) (n3 : noScr x3 = true) (n4 : noScr x4 = true) (n5 : noScr x5 = true) (h : chk5 x1 x2 x3 x4 x5 = some x) : R_longest_dark K C T ⟨[.dat x1, .dat x2, .dat x3, .dat x4, .dat x5, .dat x6], g⟩ (.ex (C "BadArgument") "name" (.str x) ⟨[.dat x1, .dat x2, .dat x3, .dat x4, .dat x5, .dat x6], g⟩)
  | no6 {x1 x2 x3 x4 x5 x6 g} (n1 : noScr x1 = true) (n2 : noScr x2 = true) (n3 : noScr x3 = true) (n4 : noScr x4 = true) (n5 : noScr x5 = true) (n6 : noScr x6 = true) (h : chk5 x1 x2 x3 x4 x5 = none) (h6 : isIn x6 1 12 = false) : R_longest_dark K C T ⟨[.dat x1, .dat x2, .dat x3, .dat x4, .dat x5, .dat x6], g⟩ (.ex (C "BadArgument") "name" (.str "lamps") ⟨[.dat x1, .dat x2, .dat x3, .dat x4, .dat x5, .dat x6], g⟩)
def t_longest_wait (K : PySem.W.Frag) (C : Str → Addr) (T : List (Addr × Str)) (E : XK) : TS :=
  (tSeq (tDrop (tCall (spF K (R_demand_all K C T)) [] E (tCons (tVar 0) (tCons (tVar 1) (tCons (tVar 2) (tCons (tVar 3) (tCons (tVar 4) tNil)))))))
    (tRet (tCall (spF K (R_delay_of K C T)) [] E (tCons (tVar 0) (tCons (tVar 1) (tCons (tVar 2) (tCons (tVar 4) (tCons (tVar 3) tNil))))))))
def t_dark_of (K : PySem.W.Frag) (C : Str → Addr) (T : List (Addr × Str)) (E : XK) : TS :=
  (tSeq (tAsg (tCall (spF K (R_delay_of K C T)) [] E (tCons (tVar 0) (tCons (tVar 1) (tCons (tVar 2) (tCons (tVar 4) (tCons (tCB (rDn K mmOk maxD) (tCons (tC (.int 1)) (tCons (tOp (rD2 K addOk addD) (tOp (rD2 K subOk subD) (tVar 3) (tVar 5)) (tC (.int 1))) tNil))) tNil)))))) (gName 6))
    (tRet (tIf (tTest (tOp (rD2 K isOk isD) (tVar 6) (tC .non))) (tC .non) (tCB (rDn K mmOk maxD) (tCons (tC (.int 0)) (tCons (tOp (rD2 K subOk subD) (tVar 6) (tOp (rD2 K mulOkV mulD) (tCB (rDn K mmOk maxD) (tCons (tC (.int 0)) (tCons (tOp (rD2 K subOk subD) (tVar 5) (tVar 3)) tNil))) (tVar 4))) tNil))))))
def t_longest_dark (K : PySem.W.Frag) (C : Str → Addr) (T : List (Addr × Str)) (E : XK) : TS :=
  (tSeq (tDrop (tCall (spF K (R_demand_all K C T)) [] E (tCons (tVar 0) (tCons (tVar 1) (tCons (tVar 2) (tCons (tVar 3) (tCons (tVar 4) tNil)))))))
    (tSeq (tDrop (tCall (spF K (R_demand K C T)) [] E (tCons (tCall (spF K (R_is_in K C T)) [] E (tCons (tVar 5) (tCons (tC (.int 1)) (tCons (tC (.int 12)) tNil)))) (tCons (tC (.str "lamps")) tNil))))
    (tRet (tCall (spF K (R_dark_of K C T)) [] E (tCons (tVar 0) (tCons (tVar 1) (tCons (tVar 2) (tCons (tVar 3) (tCons (tVar 4) (tCons (tVar 5) tNil))))))))))
theorem rd_longest_wait_ok {c b : Nat} {w e gp : Int} {g} (h1 : 1 ≤ c ∧ c ≤ 4) (h2 : 1 ≤ w ∧ w ≤ 12) (h3 : 1 ≤ e ∧ e ≤ 12) (h4 : 1 ≤ b ∧ b ≤ 6) (h5 : 1 ≤ gp ∧ gp ≤ 12) : Run K E (t_longest_wait K C T E) ⟨[.dat (.int c), .dat (.int w), .dat (.int e), .dat (.int b), .dat (.int gp)], g⟩ (.rt (oD (dlyO c w e gp b)) ⟨[.dat (.int c), .dat (.int w), .dat (.int e), .dat (.int b), .dat (.int gp)], g⟩) := by
  refine run_seq (run_drop (ev_call (ea_cons (ev_var rfl) (ea_cons (ev_var rfl) (ea_cons (ev_var rfl) (ea_cons (ev_var rfl) (ea_cons (ev_var rfl) ea_nil))))) (.ok rfl rfl rfl rfl rfl (chk5_i (by omega) h2 h3 (by omega) h5)))) ?_
  exact run_ret (ev_call (ea_cons (ev_var rfl) (ea_cons (ev_var rfl) (ea_cons (ev_var rfl) (ea_cons (ev_var rfl) (ea_cons (ev_var rfl) ea_nil))))) (.mk (by omega) (by omega) (by omega) (by omega) (by omega) (by omega) (by omega) (by omega) (by omega)))
theorem rd_longest_wait_no {x1 x2 x3 x4 x5 : D} {x : Str} {g} (n1 : noScr x1 = true) (n2 : noScr x2 = true) (n3 : noScr x3 = true) (n4 : noScr x4 = true) (n5 : noScr x5 = true) (h : chk5 x1 x2 x3 x4 x5 = some x) : Run K E (t_longest_wait K C T E) ⟨[.dat x1, .dat x2, .dat x3, .dat x4, .dat x5], g⟩ (.ex (C "BadArgument") "name" (.str x) ⟨[.dat x1, .dat x2, .dat x3, .dat x4, .dat x5], g⟩) := by
  refine run_end (run_dropX (er_call (ea_cons (ev_var rfl) (ea_cons (ev_var rfl) (ea_cons (ev_var rfl) (ea_cons (ev_var rfl) (ea_cons (ev_var rfl) ea_nil))))) (.no n1 n2 n3 n4 n5 h))) rfl
theorem rd_dark_of {c : Nat} {w e b gp l : Int} {g} (h1 : 1 ≤ c ∧ c ≤ 4) (h2 : 1 ≤ w ∧ w ≤ 12) (h3 : 1 ≤ e ∧ e ≤ 12) (h4 : 1 ≤ b ∧ b ≤ 6) (h5 : 1 ≤ gp ∧ gp ≤ 12) (h6 : 1 ≤ l ∧ l ≤ 12) : Run K E (t_dark_of K C T E) ⟨[.dat (.int c), .dat (.int w), .dat (.int e), .dat (.int b), .dat (.int gp), .dat (.int l), .unk], g⟩ (.rt (oD (darkO c w e b gp l)) ⟨[.dat (.int c), .dat (.int w), .dat (.int e), .dat (.int b), .dat (.int gp), .dat (.int l), .unk], g⟩) := by
  obtain ⟨m, hm⟩ : ∃ m : Nat, max 1 (b - l + 1) = m := ⟨(max 1 (b - l + 1)).toNat, by omega⟩
  have em : (max 1 (b - l + 1)).toNat = m := by omega
  apply run_seq
  · apply run_asg (d := oD (dlyO c w e gp m))
    apply ev_call
    · refine ea_cons (ev_var rfl) (ea_cons (ev_var rfl) (ea_cons (ev_var rfl) (ea_cons (ev_var rfl) (ea_cons (Ev.to (ev_maxI ev_int (ev_addI (ev_subI (ev_var rfl) (ev_var rfl)) ev_int)) (by rw [hm])) ea_nil))))
    · exact .mk (by omega) (by omega) (by omega) (by omega) (by omega) (by omega) (by omega) (by omega) (by omega)
  walk_at "d"
  unfold darkO
  rw [em]
  cases dlyO c w e gp m with
  | none =>
    refine run_retle (ev_ifT (EvT.to (et_test (ev_isN (ev_var rfl) ev_non)) rfl) ev_non) ?_
    exact Fo.le (by walk_at "fo")
  | some n =>
    refine run_retle (ev_ifF (EvT.to (et_test (ev_isN (ev_var rfl) ev_non)) rfl) (ev_maxI ev_int (ev_subI (ev_var rfl) (ev_mulVI (ev_maxI ev_int (ev_subI (ev_var rfl) (ev_var rfl))) (ev_var rfl) (Or.inr ⟨by omega, by omega⟩))))) ?_
    exact Fo.le (by walk_at "fo")
theorem rd_longest_dark_ok {c : Nat} {w e b gp l : Int} {g} (h1 : 1 ≤ c ∧ c ≤ 4) (h2 : 1 ≤ w ∧ w ≤ 12) (h3 : 1 ≤ e ∧ e ≤ 12) (h4 : 1 ≤ b ∧ b ≤ 6) (h5 : 1 ≤ gp ∧ gp ≤ 12) (h6 : 1 ≤ l ∧ l ≤ 12) : Run K E (t_longest_dark K C T E) ⟨[.dat (.int c), .dat (.int w), .dat (.int e), .dat (.int b), .dat (.int gp), .dat (.int l)], g⟩ (.rt (oD (darkO c w e b gp l)) ⟨[.dat (.int c), .dat (.int w), .dat (.int e), .dat (.int b), .dat (.int gp), .dat (.int l)], g⟩) := by
  have a1 : isIn (.int l) 1 12 = true := isIn_i h6.1 h6.2
  refine run_seq (run_drop (ev_call (ea_cons (ev_var rfl) (ea_cons (ev_var rfl) (ea_cons (ev_var rfl) (ea_cons (ev_var rfl) (ea_cons (ev_var rfl) ea_nil))))) (.ok rfl rfl rfl rfl rfl (chk5_i (by omega) h2 h3 (by omega) h5)))) ?_
  walk_at "s"
  exact run_ret (ev_call (ea_cons (ev_var rfl) (ea_cons (ev_var rfl) (ea_cons (ev_var rfl) (ea_cons (ev_var rfl) (ea_cons (ev_var rfl) (ea_cons (ev_var rfl) ea_nil)))))) (.mk h1 h2 h3 h4 h5 h6))
theorem rd_longest_dark_no {x1 x2 x3 x4 x5 x6 : D} {x : Str} {g} (n1 : noScr x1 = true) (n2 : noScr x2 = true) (n3 : noScr x3 = true) (n4 : noScr x4 = true) (n5 : noScr x5 = true) (h : chk5 x1 x2 x3 x4 x5 = some x) : Run K E (t_longest_dark K C T E) ⟨[.dat x1, .dat x2, .dat x3, .dat x4, .dat x5, .dat x6], g⟩ (.ex (C "BadArgument") "name" (.str x) ⟨[.dat x1, .dat x2, .dat x3, .dat x4, .dat x5, .dat x6], g⟩) := by
  refine run_end (run_dropX (er_call (ea_cons (ev_var rfl) (ea_cons (ev_var rfl) (ea_cons (ev_var rfl) (ea_cons (ev_var rfl) (ea_cons (ev_var rfl) ea_nil))))) (.no n1 n2 n3 n4 n5 h))) rfl
theorem rd_longest_dark_no6 {x1 x2 x3 x4 x5 x6 : D} {g} (n1 : noScr x1 = true) (n2 : noScr x2 = true) (n3 : noScr x3 = true) (n4 : noScr x4 = true) (n5 : noScr x5 = true) (n6 : noScr x6 = true) (h : chk5 x1 x2 x3 x4 x5 = none) (h6 : isIn x6 1 12 = false) : Run K E (t_longest_dark K C T E) ⟨[.dat x1, .dat x2, .dat x3, .dat x4, .dat x5, .dat x6], g⟩ (.ex (C "BadArgument") "name" (.str "lamps") ⟨[.dat x1, .dat x2, .dat x3, .dat x4, .dat x5, .dat x6], g⟩) := by
  refine run_seq (run_drop (ev_call (ea_cons (ev_var rfl) (ea_cons (ev_var rfl) (ea_cons (ev_var rfl) (ea_cons (ev_var rfl) (ea_cons (ev_var rfl) ea_nil))))) (.ok n1 n2 n3 n4 n5 h))) ?_
  walk_at "rs"
end CM

namespace CM
open PySem PySem.Spec PyProof.Rows L2 DL M06
variable {K : PySem.W.Frag} {C : Str → Addr} {T : List (Addr × Str)} {E : XK}
/-! ### the law's own crews -/
inductive R__law_l_ends (K : PySem.W.Frag) (C : Str → Addr) (T : List (Addr × Str)) : FR
  | mk {c : Nat} {w : Int} {d : D} {ts : List Int} {g} (hc : 0 < c) (hc4 : c ≤ 1000) (hd : seqD d = some (ts.map PyData.int)) (hl : ts.length ≤ 10000) : R__law_l_ends K C T ⟨[.dat (.int c), .dat (.int w), .dat d], g⟩ (.rt (.list ((lends c w ts).map PyData.int)) ⟨[.dat (.int c), .dat (.int w), .dat d], g⟩)
inductive R__law_l_told (K : PySem.W.Frag) (C : Str → Addr) (T : List (Addr × Str)) : FR
  | mk {e t : Int} {g} (he : 0 < e) : R__law_l_told K C T ⟨[.dat (.int e), .dat (.int t)], g⟩ (.rt (.int (rdAt e t)) ⟨[.dat (.int e), .dat (.int t)], g⟩)
inductive R__law_l_delay (K : PySem.W.Frag) (C : Str → Addr) (T : List (Addr × Str)) : FR
  | mk {p : PL} {many : Nat} {g} (hp : POk p) (hm : 0 < many) (hm2 : many ≤ 100) : R__law_l_delay K C T ⟨[.dat (plD p), .dat (.int many)], g⟩ (.rt (oD (dlyO p.crews.toNat p.work p.every p.gap many)) ⟨[.dat (plD p), .dat (.int many)], g⟩)
inductive R__law_l_dark (K : PySem.W.Frag) (C : Str → Addr) (T : List (Addr × Str)) : FR
  | mk {p : PL} {l : Int} {g} (hp : POk p) (hl : 1 ≤ l ∧ l ≤ 12) : R__law_l_dark K C T ⟨[.dat (plD p), .dat (.int l)], g⟩ (.rt (oD (darkO p.crews.toNat p.work p.every p.burst p.gap l)) ⟨[.dat (plD p), .dat (.int l)], g⟩)
def t__law_l_ends (K : PySem.W.Frag) (C : Str → Addr) (T : List (Addr × Str)) (E : XK) : TS :=
  (tSeq (tPar 3 4 (tCons (tOp (rDl2 K repOk repL) (tLst (tCons (tC (.int 0)) tNil)) (tVar 0)) (tCons (tLst tNil) tNil)))
    (tSeq (tFor (iSeq K (tVar 2)) (gName 5) (tSeq (tAsg (tCB (rDl K sortOkV sortLV) (tCons (tVar 3) tNil)) (gName 3))
    (tSeq (tAsg (tOp (rD2 K addOk addD) (tLst (tCons (tOp (rD2 K addOk addD) (tCB (rDn K mmOk maxD) (tCons (tOp (rD2 K ixOk ixD) (tVar 3) (tC (.int 0))) (tCons (tVar 5) tNil))) (tVar 1)) tNil)) (tSl (rSlU K) (tVar 3) (tPart (tC (.int 1))) tNoPart)) (gName 3))
    (tDrop (tBM K "list" rAppend (tVar 4) (tCons (tOp (rD2 K ixOk ixD) (tVar 3) (tC (.int 0))) tNil))))))
    (tRet (tVar 4))))
def t__law_l_told (K : PySem.W.Frag) (C : Str → Addr) (T : List (Addr × Str)) (E : XK) : TS :=
  (tRet (tOp (rD2 K addOk addD) (tVar 1) (tOp (rD2 K modOk modD) (tCB (rDn K intOk intD) (tCons (tUn (rD1 K negOk negD) (tVar 1)) tNil)) (tVar 0))))
def t__law_l_delay (K : PySem.W.Frag) (C : Str → Addr) (T : List (Addr × Str)) (E : XK) : TS :=
  (tSeq (tIfS (tTest (tOp (rD2 K ltXOk ltXD) (tOp (rD2 K mulOkV mulD) (tDGet (tVar 0) (tC (.str "crews"))) (tDGet (tVar 0) (tC (.str "gap")))) (tDGet (tVar 0) (tC (.str "work"))))) (tRet (tC .non)) tNext)
    (tSeq (tAsg (tTup (tCons (tC (.int 0)) (tCons (tC (.int 72)) tNil))) (gTup K 2 (gCons (gName 2) (gCons (gName 3) gNil))))
    (tSeq (tFor (iRng1 (tCons (tDGet (tVar 0) (tC (.str "every"))) tNil)) (gName 4) (tSeq (tAsg (tOp (rD2 K mulOkV mulD) (tVar 3) (tDGet (tVar 0) (tC (.str "gap")))) (gName 5))
    (tSeq (tAsg (tOp (rD2 K addOk addD) (tVar 5) (tOp (rD2 K modOk modD) (tCB (rDn K intOk intD) (tCons (tOp (rD2 K subOk subD) (tVar 4) (tVar 5)) tNil)) (tDGet (tVar 0) (tC (.str "every"))))) (gName 5))
    (tSeq (tAsg (tOp (rD2 K addOk addD) (tLc (iRng1 (tCons (tVar 3) tNil)) (gName 8) tYes (tOp (rD2 K subOk subD) (tVar 5) (tOp (rD2 K mulOkV mulD) (tOp (rD2 K subOk subD) (tVar 3) (tVar 8)) (tDGet (tVar 0) (tC (.str "gap"))))) [8]) (tOp (rDl2 K repOk repL) (tLst (tCons (tVar 5) tNil)) (tVar 1))) (gName 6))
    (tSeq (tAsg (tCall (spF K (R__law_l_ends K C T)) [] E (tCons (tDGet (tVar 0) (tC (.str "crews"))) (tCons (tDGet (tVar 0) (tC (.str "work"))) (tCons (tLc (iSeq K (tVar 6)) (gName 9) tYes (tCall (spF K (R__law_l_told K C T)) [] E0 (tCons (tDGet (tVar 0) (tC (.str "every"))) (tCons (tVar 9) tNil))) [9]) tNil)))) (gName 7))
    (tAsg (tCB (rDn K mmOk maxD) (tCons (tVar 2) (tCons (tOp (rD2 K subOk subD) (tOp (rD2 K ixOk ixD) (tVar 7) (tUn (rD1 K negOk negD) (tC (.int 1)))) (tVar 5)) tNil))) (gName 2)))))))
    (tRet (tVar 2)))))
def t__law_l_dark (K : PySem.W.Frag) (C : Str → Addr) (T : List (Addr × Str)) (E : XK) : TS :=
  (tSeq (tAsg (tCall (spF K (R__law_l_delay K C T)) [] E (tCons (tVar 0) (tCons (tCB (rDn K mmOk maxD) (tCons (tC (.int 1)) (tCons (tOp (rD2 K addOk addD) (tOp (rD2 K subOk subD) (tDGet (tVar 0) (tC (.str "burst"))) (tVar 1)) (tC (.int 1))) tNil))) tNil))) (gName 2))
    (tRet (tIf (tTest (tOp (rD2 K isOk isD) (tVar 2) (tC .non))) (tC .non) (tCB (rDn K mmOk maxD) (tCons (tC (.int 0)) (tCons (tOp (rD2 K subOk subD) (tVar 2) (tOp (rD2 K mulOkV mulD) (tCB (rDn K mmOk maxD) (tCons (tC (.int 0)) (tCons (tOp (rD2 K subOk subD) (tVar 1) (tDGet (tVar 0) (tC (.str "burst")))) tNil))) (tDGet (tVar 0) (tC (.str "gap"))))) tNil))))))
theorem rep1 {α : Type} (n : Nat) (x : α) : (List.replicate n [x]).flatten = List.replicate n x := by
  induction n with
  | zero => rfl
  | succ n ih => rw [List.replicate_succ, List.flatten_cons, ih, List.replicate_succ]; rfl
theorem map_hd {ns : List Int} (h : ns ≠ []) : atI (ns.map PyData.int) 0 = some (.int (ns.headD 0)) := by
  cases ns with
  | nil => exact absurd rfl h
  | cons x r => exact DL.atI_nat (xs := (x :: r).map PyData.int) (i := 0) rfl
theorem rd__law_l_ends {c : Nat} {w : Int} {d : D} {ts : List Int} {g} (hc : 0 < c) (hc4 : c ≤ 1000) (hd : seqD d = some (ts.map PyData.int)) (hl : ts.length ≤ 10000) :
    Run K E (t__law_l_ends K C T E) ⟨[.dat (.int c), .dat (.int w), .dat d, .unk, .unk, .unk], g⟩ (.rt (.list ((lends c w ts).map PyData.int)) ⟨[.dat (.int c), .dat (.int w), .dat d, .unk, .unk, .unk], g⟩) := by
  have rep : (List.replicate (c : Int).toNat [PyData.int 0]).flatten = (List.replicate c (0 : Int)).map PyData.int := by
    rw [Int.toNat_natCast, List.map_replicate, rep1]
  have hz : 20000 ≤ sizeLine := le_size (by decide)
  apply run_seq
  · apply run_parX
    apply ex_dat (d := .list ((List.replicate c (0 : Int)).map PyData.int))
    · rw [← rep]
      apply ev_op2L (x := .list [.int 0]) (y := .int c) (f := repL)
      · exact ev_lst (ea_cons ev_int ea_nil) (le_size (by simp))
      · exact ev_var rfl
      · exact ⟨by omega, by omega, by simp; omega⟩
    · apply ex_res
      · exact eo_lst ea_nil (Nat.zero_le _)
      · exact ex_nil
  walk_at "d"
  apply run_seq
  · refine run_for (fun i => ⟨[.dat (.int c), .dat (.int w), .dat d, .dat (.list ((((ts.take i).foldl (lstp w) (List.replicate c 0, [])).1).map PyData.int)), .res (lstR K none ((((ts.take i).foldl (lstp w) (List.replicate c 0, [])).2).map PyData.int)), .unk], g⟩) (it_seq (ev_var rfl) hd) (Fo.le (by walk_at "fo")) fun i y hy => ?_
    obtain ⟨t, ht, rfl⟩ := map_at hy
    have hi := (List.getElem?_eq_some_iff.mp ht).1
    have ln := lstp_len (w := w) (ts.take i) (List.replicate c 0, []) (fun z => by have := congrArg List.length z; simp at this; omega)
    rw [fold_at ht]
    generalize (ts.take i).foldl (lstp w) (List.replicate c 0, []) = p at ln ⊢
    rw [List.length_take] at ln
    have l1 : p.1.length = c := by rw [ln.1]; simp
    have l2 : p.2.length ≤ 10000 := by rw [ln.2]; simp; omega
    have sl : (sortI p.1).length = c := by rw [(sortI_perm p.1).length_eq, l1]
    have sne : sortI p.1 ≠ [] := fun z => by rw [z] at sl; simp at sl; omega
    refine ⟨_, tg_name, ?_⟩
    walk_at "d"
    apply run_seq
    · exact run_asg (ev_sortL (ev_var rfl))
    walk_at "d"
    have e1 : (lstp w p t).1 = (max ((sortI p.1).headD 0) t + w) :: (sortI p.1).tail := rfl
    have e2 : (lstp w p t).2 = p.2 ++ [max ((sortI p.1).headD 0) t + w] := rfl
    rw [e1, e2]
    apply run_seq
    · apply run_asg (d := .list (((max ((sortI p.1).headD 0) t + w) :: (sortI p.1).tail).map PyData.int))
      refine Ev.to (ev_addL (ev_lst (ea_cons (ev_addI (ev_maxI (ev_ixL (ev_var rfl) ev_int (map_hd sne)) (ev_var rfl)) (ev_var rfl)) ea_nil) (le_size (by simp))) (ev_slL (ev_var rfl) (ep_some ev_int) ep_none) ?_) ?_
      · rw [cut_from (by decide), List.length_drop, List.length_map, sl]
        show 1 + _ ≤ _
        omega
      · rw [cut_from (by decide), ← List.map_drop]
        show PyData.list ([PyData.int _] ++ ((sortI p.1).drop 1).map PyData.int) = _
        rw [List.drop_one]
        rfl
    walk_at "d"
    refine run_le (run_append rfl (ev_ixL (ev_var rfl) ev_int (map_hd (List.cons_ne_nil _ _))) rfl (by rw [List.length_map]; omega)) ?_
    walk_at "d"
    refine Fo.le ?_
    apply Fo.same; apply Fo.same; apply Fo.same; apply Fo.same
    refine Fo.lst (by rw [List.map_append]; rfl) ?_
    walk_at "fo"
  rw [List.length_map, List.take_length]
  refine run_frz (i := 4) rfl ?_
  walk_at "d"
  refine run_retle (ev_var rfl) ?_
  exact Fo.le (by walk_at "fo")
theorem rd__law_l_told {e t : Int} {g} (he : 0 < e) : Run K E (t__law_l_told K C T E) ⟨[.dat (.int e), .dat (.int t)], g⟩ (.rt (.int (rdAt e t)) ⟨[.dat (.int e), .dat (.int t)], g⟩) := by
  rw [rd_div he]
  exact run_ret (ev_addI (ev_var rfl) (ev_modI (ev_intI (ev_negI (ev_var rfl))) (ev_var rfl) he))
theorem rd__law_l_delay {p : PL} {many : Nat} {g} (hp : POk p) (hm : 0 < many) (hm2 : many ≤ 100) :
    Run K E (t__law_l_delay K C T E) ⟨[.dat (plD p), .dat (.int many), .unk, .unk, .unk, .unk, .unk, .unk, .unk, .unk], g⟩ (.rt (oD (dlyO p.crews.toNat p.work p.every p.gap many)) ⟨[.dat (plD p), .dat (.int many), .unk, .unk, .unk, .unk, .unk, .unk, .unk, .unk], g⟩) := by
  have hz : 20000 ≤ sizeLine := le_size (by decide)
  have hc := hp.crews; have hw := hp.work; have he := hp.every; have hg := hp.gap
  obtain ⟨c, hcc⟩ : ∃ c : Nat, p.crews = c := ⟨p.crews.toNat, by omega⟩
  have ec : p.crews.toNat = c := by omega
  have tt : EvT K (tTest (tOp (rD2 K ltXOk ltXD) (tOp (rD2 K mulOkV mulD) (tDGet (tVar 0) (tC (.str "crews"))) (tDGet (tVar 0) (tC (.str "gap")))) (tDGet (tVar 0) (tC (.str "work"))))) ⟨[.dat (plD p), .dat (.int many), .unk, .unk, .unk, .unk, .unk, .unk, .unk, .unk], g⟩ (decide ((c : Int) * p.gap < p.work)) ⟨[.dat (plD p), .dat (.int many), .unk, .unk, .unk, .unk, .unk, .unk, .unk, .unk], g⟩ := by
    rw [← hcc]
    exact et_test (ev_ltI (ev_mulVI (ev_dgetS (ev_var rfl) pl_crews) (ev_dgetS (ev_var rfl) pl_gap) (Or.inl ⟨by omega, by omega⟩)) (ev_dgetS (ev_var rfl) pl_work))
  rw [ec]
  unfold dlyO
  by_cases hcg : (c : Int) * p.gap < p.work
  · rw [decide_eq_true hcg] at tt
    rw [if_pos hcg]
    exact run_end (run_yes tt (run_ret ev_non)) rfl
  · rw [decide_eq_false hcg] at tt
    rw [if_neg hcg, ← lw_dly hm (by omega) (by omega) (by omega) (by omega) (by omega) (by omega) (by omega)]
    refine run_seq (run_no tt run_next) ?_
    apply run_seq
    · apply run_asgT
      · exact ev_tup (ea_cons ev_int (ea_cons ev_int ea_nil)) (le_size (by simp))
      · walk_at "tg"
    walk_at "d"
    apply run_seq
    · refine run_for (ds := DL.upTo 0 p.every.toNat) (s1 := ⟨[.dat (plD p), .dat (.int many), .dat (.int 0), .dat (.int 72), .unk, .unk, .unk, .unk, .unk, .unk], g⟩) (fun i => ⟨[.dat (plD p), .dat (.int many), .dat (.int ((((List.range p.every.toNat).map fun i => lw c p.work p.every p.gap many (i : Nat)).take i).foldl max 0)), .dat (.int 72), .unk, .unk, .unk, .unk, .unk, .unk], g⟩) (it_r1 (ev_dgetS (ev_var rfl) pl_every) (by omega)) (Fo.le (by walk_at "fo")) fun i y hy => ?_
      obtain ⟨hi, rfl⟩ := upTo_get hy
      have ht : ((List.range p.every.toNat).map fun i => lw c p.work p.every p.gap many (i : Nat))[i]? = some (lw c p.work p.every p.gap many (i : Nat)) := by rw [List.getElem?_map, List.getElem?_range hi]; rfl
      refine ⟨_, tg_name, ?_⟩
      walk_at "d"
      rw [fold_at ht]
      generalize ((((List.range p.every.toNat).map fun i => lw c p.work p.every p.gap many (i : Nat)).take i).foldl max 0) = mo
      rw [show (0 : Int) + (i : Int) = i by omega]
      have f0 := first_ge (e := p.every) (g := p.gap) (ph := (i : Nat)) (by omega)
      apply run_seq
      · exact run_asg (ev_mulVI (ev_var rfl) (ev_dgetS (ev_var rfl) pl_gap) (Or.inl ⟨by omega, by omega⟩))
      walk_at "d"
      apply run_seq
      · apply run_asg (d := .int (first p.every p.gap (i : Nat)))
        exact ev_addI (ev_var rfl) (ev_modI (ev_intI (ev_subI (ev_var rfl) (ev_var rfl))) (ev_dgetS (ev_var rfl) pl_every) (by omega))
      walk_at "d"
      apply run_seq
      · apply run_asg (d := .list ((lts p.every p.gap many (i : Nat)).map PyData.int))
        apply Ev.to
        · apply ev_addL
          · walk_at "lcR"
            exact ev_subI (ev_var rfl) (ev_mulVI (ev_subI (ev_var rfl) (ev_var rfl)) (ev_dgetS (ev_var rfl) pl_gap) (Or.inr ⟨by omega, by omega⟩))
          · apply ev_op2L (x := .list [.int (first p.every p.gap (i : Nat))]) (y := .int many) (f := repL)
            · exact ev_lst (ea_cons (ev_var rfl) ea_nil) (le_size (by simp))
            · exact ev_var rfl
            · exact ⟨by omega, by omega, by simp; omega⟩
          · show _ + (List.replicate (many : Int).toNat [PyData.int (first p.every p.gap (i : Nat))]).flatten.length ≤ _
            rw [rep1, Int.toNat_natCast]
            simp; omega
        · show PyData.list (_ ++ (List.replicate (many : Int).toNat [PyData.int (first p.every p.gap (i : Nat))]).flatten) = _
          rw [rep1, Int.toNat_natCast]
          unfold lts
          rw [List.map_append, List.map_map, List.map_replicate]
          rfl
      walk_at "d"
      apply run_seq
      · apply run_asg (d := .list ((lends c p.work ((lts p.every p.gap many (i : Nat)).map (rdAt p.every))).map PyData.int))
        apply ev_call
        · apply ea_cons
          · exact Ev.to (ev_dgetS (ev_var rfl) pl_crews) (by rw [hcc])
          apply ea_cons
          · exact ev_dgetS (ev_var rfl) pl_work
          apply ea_cons
          · apply ev_lcI (ts := lts p.every p.gap many (i : Nat)) (f := fun x => .int (rdAt p.every x))
            · exact ev_var rfl
            · rfl
            · rw [lts_len]; omega
            · walk_at "nr"
            · walk_at "hw"
            · intro x _
              walk_at "w"
              exact ev_call (ea_cons (ev_dgetS (ev_var rfl) pl_every) (ea_cons (ev_var rfl) ea_nil)) (.mk (by omega))
          exact ea_nil
        · exact .mk (by omega) (by omega) (by show some _ = some _; rw [List.map_map]; rfl) (by rw [List.length_map, lts_len]; omega)
      walk_at "d"
      have ll : (lends c p.work ((lts p.every p.gap many (i : Nat)).map (rdAt p.every))).length = 72 + many := by rw [lends_len (by omega), List.length_map, lts_len]
      have la : atI ((lends c p.work ((lts p.every p.gap many (i : Nat)).map (rdAt p.every))).map PyData.int) (-1) = some (.int (lw c p.work p.every p.gap many (i : Nat) + first p.every p.gap (i : Nat))) := by
        refine atI_last ?_
        rw [List.length_map, ll, List.getElem?_map]
        unfold lw
        rw [List.getD_eq_getElem?_getD, List.getElem?_eq_getElem (by rw [ll]; omega)]
        show some (PyData.int _) = some (PyData.int _)
        congr 2
        simp
      refine run_le (run_asg (ev_maxI (ev_var rfl) (ev_subI (ev_ixL (ev_var rfl) (ev_negI ev_int) la) (ev_var rfl)))) ?_
      walk_at "d"
      refine Fo.le ?_
      apply Fo.same; apply Fo.same
      refine Fo.int (by show max mo _ = max mo _; congr 1; omega) ?_
      walk_at "fo"
    rw [upTo_len]
    rw [show ((List.range p.every.toNat).map fun i => lw c p.work p.every p.gap many (i : Nat)).take p.every.toNat = (List.range p.every.toNat).map fun i => lw c p.work p.every p.gap many (i : Nat) from List.take_of_length_le (by simp)]
    refine run_retle (ev_var rfl) ?_
    exact Fo.le (by walk_at "fo")
theorem rd__law_l_dark {p : PL} {l : Int} {g} (hp : POk p) (hl : 1 ≤ l ∧ l ≤ 12) :
    Run K E (t__law_l_dark K C T E) ⟨[.dat (plD p), .dat (.int l), .unk], g⟩ (.rt (oD (darkO p.crews.toNat p.work p.every p.burst p.gap l)) ⟨[.dat (plD p), .dat (.int l), .unk], g⟩) := by
  have hb := hp.burst; have hg := hp.gap
  obtain ⟨m, hm⟩ : ∃ m : Nat, max 1 (p.burst - l + 1) = m := ⟨(max 1 (p.burst - l + 1)).toNat, by omega⟩
  have em : (max 1 (p.burst - l + 1)).toNat = m := by omega
  apply run_seq
  · apply run_asg (d := oD (dlyO p.crews.toNat p.work p.every p.gap m))
    apply ev_call
    · apply ea_cons
      · exact ev_var rfl
      apply ea_cons
      · refine Ev.to (ev_maxI ev_int (ev_addI (ev_subI (ev_dgetS (ev_var rfl) pl_burst) (ev_var rfl)) ev_int)) (by rw [hm])
      exact ea_nil
    · exact .mk hp (by omega) (by omega)
  walk_at "d"
  unfold darkO
  rw [em]
  cases dlyO p.crews.toNat p.work p.every p.gap m with
  | none =>
    refine run_retle (ev_ifT (EvT.to (et_test (ev_isN (ev_var rfl) ev_non)) rfl) ev_non) ?_
    exact Fo.le (by walk_at "fo")
  | some n =>
    refine run_retle (ev_ifF (EvT.to (et_test (ev_isN (ev_var rfl) ev_non)) rfl) (ev_maxI ev_int (ev_subI (ev_var rfl) (ev_mulVI (ev_maxI ev_int (ev_subI (ev_var rfl) (ev_dgetS (ev_var rfl) pl_burst))) (ev_dgetS (ev_var rfl) pl_gap) (Or.inr ⟨by omega, by omega⟩))))) ?_
    exact Fo.le (by walk_at "fo")
end CM

namespace CM
open PySem PySem.Spec PyProof.Rows L2 DL M06
variable {K : PySem.W.Frag} {C : Str → Addr} {T : List (Addr × Str)} {E : XK}
theorem set_at {s : S} {i : Nat} {x y : Sl} (h : s.s[i]? = some x) : (s.set i y).s[i]? = some y := List.getElem?_set_self (List.getElem?_eq_some_iff.mp h).1
theorem set_set {s : S} {i : Nat} {x y : Sl} : (s.set i x).set i y = s.set i y := by
  unfold S.set
  simp
/-- own = wide if a roll is 0 else small -/
theorem run_own {ov : Option V} {d : Dice} {n : Int} {s : S} {j : Nat} {t : Int} (h0 : s.s[0]? = some (.res (lstR K ov (dl d)))) (hd : DOk n d) (hn : n < 90000) (ht : 0 < t ∧ t < 1000) :
    ∃ p D2, POk p ∧ DOk (n + 25) D2 ∧ Run K E (tAsg (tIf (tTest (tOp (rD2 K eqOk eqD) (tCall (spF K (R__law_roll K C T)) [] E (tCons (tVar 0) (tCons (tC (.int t)) tNil))) (tC (.int 0)))) (tCall (spF K (R__law_l_wide K C T)) [] E (tCons (tVar 0) tNil)) (tCall (spF K (R__law_l_choices K C T)) [] E (tCons (tVar 0) tNil))) (gName j)) s (.nx ((s.set 0 (.res (lstR K ov (dl D2)))).set j (.dat (plD p)))) := by
  have roll := et_test (K := K) (ev_eqI (ev_rollD (K := K) (C := C) (T := T) (E := E) (d0 := d) (x := rv d t) h0 ev_int h0 hd (by omega) ht.1 (by omega) rfl) (ev_int (i := 0)))
  by_cases c : rv d t = 0
  · rw [decide_eq_true c] at roll
    refine ⟨wdP (CM.rd d t), wdD (CM.rd d t) 19, wdP_ok _, (wdD_ok hd.rd 19).up (by omega), run_asg (ev_ifT roll ?_)⟩
    have := ev_callL (K := K) (E := E) (R := R__law_l_wide K C T) (tr := tNil) (ds := []) (i := 0) (ov := ov) (es := dl (CM.rd d t)) (es2 := dl (wdD (CM.rd d t) 19)) (d := plD (wdP (CM.rd d t))) (set_at (y := .res (lstR K ov (dl (CM.rd d t)))) h0) ea_nil (set_at h0) fun v => .mk hd.rd (by omega)
    rw [set_set] at this
    exact this
  · rw [decide_eq_false c] at roll
    refine ⟨chP (CM.rd d t), chD (CM.rd d t) 15, chP_ok _, (chD_ok hd.rd 15).up (by omega), run_asg (ev_ifF roll ?_)⟩
    have := ev_callL (K := K) (E := E) (R := R__law_l_choices K C T) (tr := tNil) (ds := []) (i := 0) (ov := ov) (es := dl (CM.rd d t)) (es2 := dl (chD (CM.rd d t) 15)) (d := plD (chP (CM.rd d t))) (set_at (y := .res (lstR K ov (dl (CM.rd d t)))) h0) ea_nil (set_at h0) fun v => .mk hd.rd (by omega)
    rw [set_set] at this
    exact this
theorem pw_asc {ns : List Int} (h : ns.Pairwise (· ≤ ·)) : asc ns = true := by
  unfold asc
  rw [List.all_eq_true]
  intro p hp
  obtain ⟨j, hj⟩ := List.getElem?_of_mem hp
  obtain ⟨h1, h2⟩ := List.getElem?_zip_eq_some.mp hj
  rw [List.getElem?_drop] at h2
  obtain ⟨l1, e1⟩ := List.getElem?_eq_some_iff.mp h1
  obtain ⟨l2, e2⟩ := List.getElem?_eq_some_iff.mp h2
  have := List.pairwise_iff_getElem.mp h j (1 + j) l1 l2 (by omega)
  rw [e1, e2] at this
  exact decide_eq_true this
theorem times_of {ns : List Int} (h : ns.Pairwise (· ≤ ·)) (hl : ns.length ≤ 1000) (hb : ∀ x ∈ ns, 0 ≤ x ∧ x ≤ 10000) : areTimes (.tuple (ns.map PyData.int)) = true := by
  show (decide ((ns.map PyData.int).length ≤ 1000) && ((ns.map PyData.int).all isTick && asc ((intsOf (ns.map PyData.int)).getD []))) = true
  rw [intsOf_map, decide_eq_true (by rw [List.length_map]; exact hl), List.all_map]
  simp only [Bool.true_and, Option.getD_some, pw_asc h, Bool.and_true]
  rw [List.all_eq_true]
  intro x hx
  exact isIn_i (hb x hx).1 (hb x hx).2
theorem one_roll {d : Dice} {t : Nat} (h : 0 < t) : ∃ c : Nat, (1 : Int) + rv d t = c ∧ 1 ≤ c ∧ c ≤ t := by
  have h0 := rv0 (d := d) (t := t) (by omega)
  have h1 := rv1 (d := d) (t := t) (by omega)
  exact ⟨(1 + rv d t).toNat, by omega, by omega, by omega⟩
theorem neT_no {ta tb : TE} {s s1 s2 : S} {x : D} (ha : Ev K ta s x s1) (hb : Ev K tb s1 x s2) (ok : eqOk x x) (he : PyData.eqv x x = true) : EvT K (tTest (tOp (rD2 K eqOk neD) ta tb)) s false s2 := EvT.to (et_test (ev_neT ha hb ok)) (by rw [he]; rfl)
theorem oD_sh (o : Option Int) : Sh 0 (oD o) := by
  cases o with
  | none => exact sh_non
  | some n => exact sh_int
theorem oD_ok (o : Option Int) : eqOk (oD o) (oD o) := ⟨(oD_sh o).ok (by decide), (oD_sh o).ok (by decide)⟩
theorem oD_eqv (o : Option Int) : PyData.eqv (oD o) (oD o) = true := (oD_sh o).eqv
end CM

/-! faults that let a lamp wait, or a street be dark, for long -/
namespace M06
open PySem PySem.Spec L2 DL CM
section
variable {c : Nat} {w e g : Int}
/-! ### s single ones, then a burst -/
def fst (e g : Int) (s : Nat) (ph : Int) : Int := (s : Int) * g + (ph - (s : Int) * g) % e
def sts (e g : Int) (many s : Nat) (ph : Int) : List Int := (List.range (s + many)).map fun j => fst e g s ph - ((s - j : Nat) : Int) * g
def ws (c : Nat) (w e g : Int) (many s : Nat) (ph : Int) : Int := (fin c w ((sts e g many s ph).map (rdAt e))).getD (s + many - 1) 0 - fst e g s ph
theorem sts_len {many s : Nat} {ph : Int} : (sts e g many s ph).length = s + many := by simp [sts]
theorem sts_at {many s j : Nat} {ph : Int} (h : j < s + many) : (sts e g many s ph).getD j 0 = fst e g s ph - ((s - j : Nat) : Int) * g := by
  unfold sts
  rw [List.getD_eq_getElem?_getD, List.getElem?_map, List.getElem?_range h]
  rfl
theorem fst_is {s : Nat} {ph : Int} : ∃ k, fst e g s ph = ph + e * k := by
  have h := Int.emod_add_mul_ediv (ph - (s : Int) * g) e
  refine ⟨-((ph - (s : Int) * g) / e), ?_⟩
  unfold fst
  rw [Int.mul_neg]
  omega
theorem fst_ge {s : Nat} {ph : Int} (he : 0 < e) : (s : Int) * g ≤ fst e g s ph ∧ fst e g s ph < (s : Int) * g + e := by
  have h1 := Int.emod_nonneg (ph - (s : Int) * g) (show e ≠ 0 by omega)
  have h2 := Int.emod_lt_of_pos (ph - (s : Int) * g) he
  unfold fst
  omega
theorem sts_pw {many s : Nat} {ph : Int} (hg : 0 ≤ g) : (sts e g many s ph).Pairwise (· ≤ ·) := getD_pw fun i j hij hj => by
  rw [sts_len] at hj
  rw [sts_at (by omega), sts_at hj]
  have : ((s - j : Nat) : Int) * g ≤ ((s - i : Nat) : Int) * g := Int.mul_le_mul_of_nonneg_right (by omega) hg
  omega
theorem ws_wt {many s : Nat} {ph : Int} (hm : 0 < many) (hc : 0 < c) (he : 0 < e) (hg : 0 < g) (hw : 0 ≤ w) : Wt c w (Tf e g ph) many s (ws c w e g many s ph + ph) := by
  obtain ⟨k, hk⟩ := fst_is (e := e) (g := g) (s := s) (ph := ph)
  have f0 := fst_ge (g := g) (s := s) (ph := ph) he
  have tl : ((sts e g many s ph).map (rdAt e)).length = s + many := by rw [List.length_map, sts_len]
  have ta : ∀ j, j < s + many → ((sts e g many s ph).map (rdAt e)).getD j 0 = Tf e g ph ((s - j : Nat) : Int) + e * k := fun j hj => by
    rw [map_getD (by rw [sts_len]; exact hj), sts_at hj, hk]
    unfold Tf
    rw [← rd_mul he]
    congr 1
    omega
  have z : ∀ j, j < s + many → 0 ≤ ((sts e g many s ph).map (rdAt e)).getD j 0 := fun j hj => by
    rw [map_getD (by rw [sts_len]; exact hj), sts_at hj]
    have h1 := (rd_ge (e := e) (t := fst e g s ph - ((s - j : Nat) : Int) * g) he).1
    have h2 : ((s - j : Nat) : Int) * g ≤ (s : Int) * g := Int.mul_le_mul_of_nonneg_right (by omega) (by omega)
    omega
  have key := wt_run (w := w) (T := fun k' => Tf e g ph k' + e * k) hc hm tl ta z
  have e1 : ws c w e g many s ph + ph = (qe w (List.replicate c 0) ((sts e g many s ph).map (rdAt e))).getD (s + many - 1) 0 - e * k := by
    unfold ws
    rw [fin_qe hc hw (pw_rd he (sts_pw (by omega))), hk]
    omega
  rw [e1]
  refine ⟨fun i hi => ?_, ?_⟩
  · have := key.ge i hi
    omega
  · obtain ⟨i, h1, h2⟩ := key.is
    exact ⟨i, h1, by omega⟩
theorem ws_bw {many s : Nat} {ph : Int} (hs : 48 ≤ s) (hm : 0 < many) (hc : 0 < c) (hc4 : c ≤ 4) (he : 0 < e) (he2 : e ≤ 12) (hg : 0 < g) (hw : 0 ≤ w) (hcg : w ≤ c * g) : ws c w e g many s ph = bw c w e g many ph := by
  obtain ⟨m, h1, h2⟩ := bw_wt (s := ph) hm hc hc4 he he2 hg hw hcg
  have h3 := ws_wt (s := s) (ph := ph) hm hc he hg hw
  have h4 : e.toNat * c ≤ 12 * 4 := Nat.mul_le_mul (by omega) hc4
  have := wt_eq (e := e.toNat) hc (by omega) (fun k => tf_hT he hcg k) h2 h3 (by omega) (by omega)
  omega
/-- they wait longer and longer where crews are too few -/
theorem ws_grow {many s i : Nat} {ph : Int} (hs : i * c ≤ s) (hm : 0 < many) (hc : 0 < c) (he : 0 < e) (hg : 0 < g) (hw : 0 ≤ w) (hcg : (c : Int) * g < w) : (i : Int) + 1 ≤ ws c w e g many s ph := by
  have h := (ws_wt (s := s) (ph := ph) hm hc he hg hw).ge i (by omega)
  have h2 : ph - ((i * c + 1 - many : Nat) : Int) * g ≤ Tf e g ph ((i * c + 1 - many : Nat) : Int) := (rd_ge he).1
  have h3 : ((i * c + 1 - many : Nat) : Int) * g ≤ ((i * c : Nat) : Int) * g := Int.mul_le_mul_of_nonneg_right (by omega) (by omega)
  have h4 : ((i * c : Nat) : Int) * g = (i : Int) * ((c : Int) * g) := by rw [Int.natCast_mul, Int.mul_assoc]
  have h5 : (i : Int) * ((c : Int) * g + 1) ≤ (i : Int) * w := Int.mul_le_mul_of_nonneg_left (by omega) (by omega)
  have h6 : ((i + 1 : Nat) : Int) * w = (i : Int) * w + w := by rw [Int.natCast_add, Int.add_mul]; simp
  have h8 : 0 ≤ (c : Int) * g := Int.mul_nonneg (by omega) (by omega)
  have h7 : (i : Int) * ((c : Int) * g + 1) = (i : Int) * ((c : Int) * g) + i := by rw [Int.mul_add]; simp
  omega
/-- with the fewest crews they wait w and more -/
theorem ws_pos {many s : Nat} {ph : Int} (hm : 0 < many) (hc : 0 < c) (he : 0 < e) (hg : 0 < g) (hw : 0 < w) : w ≤ ws c w e g many s ph := by
  have h := (ws_wt (w := w) (s := s) (ph := ph) hm hc he hg (by omega)).ge 0 (by omega)
  rw [show 0 * c + 1 - many = 0 by omega] at h
  have h2 := tf_ge (s := ph) he (show 0 ≤ g by omega) 0
  have h3 : ((0 + 1 : Nat) : Int) * w = w := by simp
  rw [h3] at h
  simp only [Int.natCast_zero, Int.neg_zero] at h h2
  omega
end
/-! ### the ticks that are tried -/
def mM (b l : Nat) : Int := ((l - b : Nat) : Int)
def tah (e g : Int) (b l s : Nat) (ph : Int) : List Int := (List.range (s + max b l)).map fun (j : Nat) => fst e g s ph + min ((j : Int) - s) (mM b l) * g
def manyOf (b l : Nat) : Nat := b - l + 1
section
variable {c : Nat} {w e g : Int} {b l s : Nat} {ph : Int}
theorem tah_len : (tah e g b l s ph).length = s + max b l := by simp [tah]
theorem tah_at {j : Nat} (h : j < s + max b l) : (tah e g b l s ph).getD j 0 = fst e g s ph + min ((j : Int) - s) (mM b l) * g := by
  unfold tah
  rw [List.getD_eq_getElem?_getD, List.getElem?_map, List.getElem?_range h]
  rfl
theorem tah_kp (hg : 0 ≤ g) (hb : 0 < b) (hl : 0 < l) : Kp b g (tah e g b l s ph) := by
  refine ⟨fun i j hij hj => ?_, fun i j hij hj => ?_⟩
  · rw [tah_len] at hj
    rw [tah_at (by omega), tah_at hj]
    have : min ((i : Int) - s) (mM b l) * g ≤ min ((j : Int) - s) (mM b l) * g := Int.mul_le_mul_of_nonneg_right (by omega) hg
    omega
  · rw [tah_len] at hj
    rw [tah_at (by omega), tah_at hj]
    have h1 : (min ((i : Int) - s) (mM b l) + ((j : Int) + 1 - i - b)) * g ≤ min ((j : Int) - s) (mM b l) * g := Int.mul_le_mul_of_nonneg_right (by unfold mM; omega) hg
    rw [Int.add_mul] at h1
    omega
theorem tah_lo (he : 0 < e) (hg : 0 ≤ g) {j : Nat} (h : j < s + max b l) : 0 ≤ (tah e g b l s ph).getD j 0 := by
  rw [tah_at h]
  have f0 := fst_ge (g := g) (s := s) (ph := ph) he
  have h1 : (-(s : Int)) * g ≤ min ((j : Int) - s) (mM b l) * g := Int.mul_le_mul_of_nonneg_right (by unfold mM; omega) hg
  rw [Int.neg_mul] at h1
  omega
theorem tah_hi (he : 0 < e) (hg : 0 ≤ g) {j : Nat} (h : j < s + max b l) : (tah e g b l s ph).getD j 0 ≤ (s : Int) * g + e + mM b l * g := by
  rw [tah_at h]
  have f0 := fst_ge (g := g) (s := s) (ph := ph) he
  have h1 : min ((j : Int) - s) (mM b l) * g ≤ mM b l * g := Int.mul_le_mul_of_nonneg_right (by omega) hg
  omega
/-- the ends of the first ones do not lean on those behind -/
theorem fin_take {ts : List Int} (k : Nat) {j : Nat} (hj : j < k) (hk : k ≤ ts.length) : (fin c w ts).getD j 0 = (fin c w (ts.take k)).getD j 0 := by
  have e1 : ts = ts.take k ++ ts.drop k := (List.take_append_drop k ts).symm
  have key : ∀ (us : List Int) (p : List Int × List Int), ∃ vs, (us.foldl (stp w) p).2 = p.2 ++ vs := by
    intro us
    induction us with
    | nil => intro p; exact ⟨[], by simp⟩
    | cons u us ih =>
      intro p
      obtain ⟨vs, h⟩ := ih (stp w p u)
      exact ⟨endOf w p.1 u :: vs, by rw [List.foldl_cons, h]; show (p.2 ++ [endOf w p.1 u]) ++ vs = _; simp⟩
  obtain ⟨vs, h⟩ := key (ts.drop k) ((ts.take k).foldl (stp w) (List.replicate c 0, []))
  have e2 : fin c w ts = fin c w (ts.take k) ++ vs := by
    unfold fin
    conv => lhs; rw [e1]
    rw [List.foldl_append, h]
  have hl : (fin c w (ts.take k)).length = k := by rw [fin_len, List.length_take]; omega
  rw [e2, List.getD_eq_getElem?_getD, List.getD_eq_getElem?_getD, List.getElem?_append_left (by omega)]
/-- for how long all the last l are out -/
def dur (c : Nat) (w e g : Int) (b l s : Nat) (ph : Int) : Int := (fin c w ((tah e g b l s ph).map (rdAt e))).getD (s + max b l - l) 0 - (tah e g b l s ph).getD (s + max b l - 1) 0
theorem dur_eq (hb : 0 < b) (hl : 0 < l) : dur c w e g b l s ph = ws c w e g (manyOf b l) s ph - mM b l * g := by
  have e1 : (tah e g b l s ph).take (s + manyOf b l) = sts e g (manyOf b l) s ph := by
    apply List.ext_getElem
    · rw [List.length_take, tah_len, sts_len]
      unfold manyOf
      omega
    · intro j h1 h2
      rw [sts_len] at h2
      have h3 : j < s + max b l := by unfold manyOf at h2; omega
      have a1 := tah_at (e := e) (g := g) (b := b) (l := l) (ph := ph) h3
      have a2 := sts_at (e := e) (g := g) (ph := ph) h2
      rw [List.getElem_take]
      rw [List.getD_eq_getElem?_getD, List.getElem?_eq_getElem (by rw [tah_len]; exact h3)] at a1
      rw [List.getD_eq_getElem?_getD, List.getElem?_eq_getElem (by rw [sts_len]; exact h2)] at a2
      simp only [Option.getD_some] at a1 a2
      rw [a1, a2]
      have h4 : min ((j : Int) - s) (mM b l) = -((s - j : Nat) : Int) := by unfold mM; unfold manyOf at h2; omega
      rw [h4, Int.neg_mul]
      omega
  have e2 : s + max b l - l = s + manyOf b l - 1 := by unfold manyOf; omega
  have e3 := fin_take (c := c) (w := w) (ts := (tah e g b l s ph).map (rdAt e)) (s + manyOf b l) (j := s + manyOf b l - 1) (by unfold manyOf; omega) (by rw [List.length_map, tah_len]; unfold manyOf; omega)
  unfold dur ws
  rw [e2, e3, ← List.map_take, e1, tah_at (by omega)]
  have h5 : min (((s + max b l - 1 : Nat) : Int) - s) (mM b l) = mM b l := by unfold mM; omega
  rw [h5]
  omega
end
/-! ### how many single ones are tried -/
def sg : Nat → Nat
  | 0 => 0
  | i + 1 => sg i + (1 + sg i / 8)
theorem sg_lt (i : Nat) : sg i < sg (i + 1) := by show sg i < sg i + (1 + sg i / 8); omega
theorem sg_le {i j : Nat} (h : i ≤ j) : sg i ≤ sg j := by
  induction j with
  | zero => rw [show i = 0 by omega]; exact Nat.le_refl _
  | succ j ih =>
    by_cases e : i = j + 1
    · rw [e]; exact Nat.le_refl _
    · exact Nat.le_trans (ih (by omega)) (Nat.le_of_lt (sg_lt j))
theorem sg_ge (i : Nat) : i ≤ sg i := by
  induction i with
  | zero => exact Nat.le_refl _
  | succ i ih => have := sg_lt i; omega
theorem sg_near (n : Nat) : ∃ i, i ≤ n ∧ n ≤ sg i ∧ sg i ≤ n + n / 8 + 1 := by
  induction n with
  | zero => exact ⟨0, Nat.le_refl _, Nat.le_refl _, by show 0 ≤ _; omega⟩
  | succ n ih =>
    obtain ⟨i, h0, h1, h2⟩ := ih
    by_cases c : n + 1 ≤ sg i
    · exact ⟨i, by omega, c, by omega⟩
    · refine ⟨i + 1, by omega, ?_, ?_⟩
      · have := sg_lt i; omega
      · have e : sg i = n := by omega
        show sg i + (1 + sg i / 8) ≤ _
        rw [e]; omega
def okT (c : Nat) (w e g : Int) (b l : Nat) (ticks : Int) (s : Nat) (ph : Nat) : Bool := decide (ticks ≤ dur c w e g b l s (ph : Nat))
def rowT (c : Nat) (w e g : Int) (b l : Nat) (ticks : Int) (i : Nat) : Bool := (List.range e.toNat).any (okT c w e g b l ticks (sg i))
def ffI (c : Nat) (w e g : Int) (b l : Nat) (ticks : Int) : Nat := (List.range 1000).findIdx (rowT c w e g b l ticks)
def ffP (c : Nat) (w e g : Int) (b l : Nat) (ticks : Int) : Nat := (List.range e.toNat).findIdx (okT c w e g b l ticks (sg (ffI c w e g b l ticks)))
/-- the ticks told, None where none wait for so long -/
def ffT (c : Nat) (w e g : Int) (b l : Nat) (ticks : Int) : List Int := tah e g b l (sg (ffI c w e g b l ticks)) (ffP c w e g b l ticks : Nat)
structure FfOk (c : Nat) (w e g : Int) (b l : Nat) (ticks : Int) (N : Nat) : Prop where
  i : ffI c w e g b l ticks < 1000
  row : rowT c w e g b l ticks (ffI c w e g b l ticks) = true
  p : ffP c w e g b l ticks < e.toNat
  ok : okT c w e g b l ticks (sg (ffI c w e g b l ticks)) (ffP c w e g b l ticks) = true
  no : ∀ i, i < ffI c w e g b l ticks → ∀ ph, ph < e.toNat → okT c w e g b l ticks (sg i) ph = false
  noP : ∀ ph, ph < ffP c w e g b l ticks → okT c w e g b l ticks (sg (ffI c w e g b l ticks)) ph = false
  s : sg (ffI c w e g b l ticks) ≤ N + N / 8 + 1
theorem ff_ok {c : Nat} {w e g : Int} {b l : Nat} {ticks : Int} {N : Nat} (hN : N < 1000) (h : ∀ s, N ≤ s → ∃ ph : Nat, ph < e.toNat ∧ ticks ≤ dur c w e g b l s (ph : Nat)) : FfOk c w e g b l ticks N := by
  obtain ⟨j, j0, j1, j2⟩ := sg_near N
  obtain ⟨ph, p1, p2⟩ := h (sg j) j1
  have hrow : rowT c w e g b l ticks j = true := by
    unfold rowT
    rw [List.any_eq_true]
    exact ⟨ph, by simpa using p1, decide_eq_true p2⟩
  have hx : ∃ x ∈ List.range 1000, rowT c w e g b l ticks x = true := ⟨j, by rw [List.mem_range]; omega, hrow⟩
  have hi : ffI c w e g b l ticks < 1000 := by
    have := List.findIdx_lt_length_of_exists hx
    rw [List.length_range] at this
    exact this
  have hr : rowT c w e g b l ticks (ffI c w e g b l ticks) = true := idx_range hi
  have hle : ffI c w e g b l ticks ≤ j := by
    apply Nat.le_of_not_lt
    intro z
    have := List.not_of_lt_findIdx (show j < (List.range 1000).findIdx (rowT c w e g b l ticks) from z)
    rw [List.getElem_range] at this
    rw [hrow] at this
    cases this
  have hp : ∃ x ∈ List.range e.toNat, okT c w e g b l ticks (sg (ffI c w e g b l ticks)) x = true := by
    have := hr
    unfold rowT at this
    rw [List.any_eq_true] at this
    exact this
  have hpl : ffP c w e g b l ticks < e.toNat := by
    have := List.findIdx_lt_length_of_exists hp
    rw [List.length_range] at this
    exact this
  refine ⟨hi, hr, hpl, idx_range hpl, fun i h1 ph h2 => ?_, fun ph h1 => ?_, Nat.le_trans (sg_le hle) j2⟩
  · have := List.not_of_lt_findIdx (show i < (List.range 1000).findIdx (rowT c w e g b l ticks) from h1)
    rw [List.getElem_range] at this
    unfold rowT at this
    rw [List.any_eq_false] at this
    have := this ph (by simpa using h2)
    simpa using this
  · have := List.not_of_lt_findIdx (show ph < (List.range e.toNat).findIdx (okT c w e g b l ticks (sg (ffI c w e g b l ticks))) from h1)
    rw [List.getElem_range] at this
    simpa using this
/-- some wait for so long: by crews that keep up, or by crews that fall behind -/
theorem ff_keep {c : Nat} {w e g : Int} {b l : Nat} {ticks D : Int} (hb : 0 < b) (hl : 0 < l) (hc : 0 < c) (hc4 : c ≤ 4) (he : 0 < e) (he2 : e ≤ 12) (hg : 0 < g) (hw : 0 ≤ w) (hD : dlyO c w e g (manyOf b l) = some D) (ht : ticks ≤ D - mM b l * g) : FfOk c w e g b l ticks 48 := by
  refine ff_ok (by decide) fun s hs => ?_
  unfold dlyO at hD
  by_cases hcg : (c : Int) * g < w
  · rw [if_pos hcg] at hD; cases hD
  rw [if_neg hcg] at hD
  cases hD
  have hne : ((DL.upTo 0 e.toNat).map fun s => bw c w e g (manyOf b l) (ofInt s)) ≠ [] := fun z => by
    have := congrArg List.length z
    rw [List.length_map, upTo_len] at this
    simp at this
    omega
  have hm := lmax_mem hne
  rw [upTo_ints] at hm ht
  obtain ⟨ph, hph, hv⟩ := List.mem_map.mp hm
  refine ⟨ph, by simpa using hph, ?_⟩
  rw [dur_eq hb hl, ws_bw hs (by unfold manyOf; omega) hc hc4 he he2 hg hw (by omega), hv]
  exact ht
theorem ff_behind {c : Nat} {w e g : Int} {b l : Nat} {ticks : Int} {R : Nat} (hb : 0 < b) (hl : 0 < l) (hc : 0 < c) (he : 0 < e) (hg : 0 < g) (hw : 0 ≤ w) (hcg : (c : Int) * g < w) (ht : ticks + mM b l * g ≤ R) (hN : R * c < 1000) : FfOk c w e g b l ticks (R * c) := by
  refine ff_ok hN fun s hs => ⟨0, by omega, ?_⟩
  rw [dur_eq hb hl]
  have := ws_grow (w := w) (e := e) (g := g) (s := s) (i := R) (ph := ((0 : Nat) : Int)) (many := manyOf b l) hs (by unfold manyOf; omega) hc he hg hw hcg
  omega
end M06

namespace CM
open PySem PySem.Spec PyProof.Rows L2 DL M06
variable {K : PySem.W.Frag} {C : Str → Addr} {T : List (Addr × Str)} {E : XK}
/-! ### faults that wait for long -/
inductive R_times_ahead (K : PySem.W.Frag) (C : Str → Addr) (T : List (Addr × Str)) : FR
  | mk {e gp ph : Int} {b l s : Nat} {g} (he : 0 < e) (he2 : e ≤ 12) (hg : 0 < gp) (hg2 : gp ≤ 12) (hb : 0 < b) (hb2 : b ≤ 12) (hl : 0 < l) (hl2 : l ≤ 12) (hs : s ≤ 5000) : R_times_ahead K C T ⟨[.dat (.int e), .dat (.int b), .dat (.int gp), .dat (.int l), .dat (.int s), .dat (.int ph)], g⟩ (.rt (.list ((tah e gp b l s ph).map PyData.int)) ⟨[.dat (.int e), .dat (.int b), .dat (.int gp), .dat (.int l), .dat (.int s), .dat (.int ph)], g⟩)
inductive R_faults_for (K : PySem.W.Frag) (C : Str → Addr) (T : List (Addr × Str)) : FR
  | no {c b l : Nat} {w e gp t L : Int} {g} (hc : 1 ≤ c ∧ c ≤ 4) (hw : 1 ≤ w ∧ w ≤ 12) (he : 1 ≤ e ∧ e ≤ 12) (hb : 1 ≤ b ∧ b ≤ 6) (hg : 1 ≤ gp ∧ gp ≤ 12) (hl : 1 ≤ l ∧ l ≤ 12) (h : darkO c w e b gp l = some L) (h2 : L < t) : R_faults_for K C T ⟨[.dat (.int c), .dat (.int w), .dat (.int e), .dat (.int b), .dat (.int gp), .dat (.int l), .dat (.int t)], g⟩ (.rt .none ⟨[.dat (.int c), .dat (.int w), .dat (.int e), .dat (.int b), .dat (.int gp), .dat (.int l), .dat (.int t)], g⟩)
  | ok {c b l N : Nat} {w e gp t : Int} {g} (hc : 1 ≤ c ∧ c ≤ 4) (hw : 1 ≤ w ∧ w ≤ 12) (he : 1 ≤ e ∧ e ≤ 12) (hb : 1 ≤ b ∧ b ≤ 6) (hg : 1 ≤ gp ∧ gp ≤ 12) (hl : 1 ≤ l ∧ l ≤ 12) (h : ∀ L, darkO c w e b gp l = some L → t ≤ L) (hN : N ≤ 900) (ff : FfOk c w e gp b l t N) : R_faults_for K C T ⟨[.dat (.int c), .dat (.int w), .dat (.int e), .dat (.int b), .dat (.int gp), .dat (.int l), .dat (.int t)], g⟩ (.rt (.list ((ffT c w e gp b l t).map PyData.int)) ⟨[.dat (.int c), .dat (.int w), .dat (.int e), .dat (.int b), .dat (.int gp), .dat (.int l), .dat (.int t)], g⟩)
def t_times_ahead (K : PySem.W.Frag) (C : Str → Addr) (T : List (Addr × Str)) (E : XK) : TS :=
  (tSeq (tAsg (tOp (rD2 K mulOkV mulD) (tVar 4) (tVar 2)) (gName 6))
    (tSeq (tAug 6 (tOp (rD2 K modOk modD) (tOp (rD2 K subOk subD) (tVar 5) (tVar 6)) (tVar 0)) (ipI fun i j => i + j))
    (tSeq (tAsg (tOp (rD2 K addOk addD) (tVar 6) (tOp (rD2 K mulOkV mulD) (tCB (rDn K mmOk maxD) (tCons (tC (.int 0)) (tCons (tOp (rD2 K subOk subD) (tVar 3) (tVar 1)) tNil))) (tVar 2))) (gName 7))
    (tSeq (tAsg (tOp (rD2 K addOk addD) (tLc (iRng1 (tCons (tVar 4) tNil)) (gName 9) tYes (tOp (rD2 K subOk subD) (tVar 6) (tOp (rD2 K mulOkV mulD) (tOp (rD2 K subOk subD) (tVar 4) (tVar 9)) (tVar 2))) [9]) (tOp (rDl2 K repOk repL) (tLst (tCons (tVar 6) tNil)) (tCB (rDn K mmOk maxD) (tCons (tC (.int 0)) (tCons (tOp (rD2 K subOk subD) (tVar 1) (tVar 3)) tNil))))) (gName 8))
    (tRet (tOp (rD2 K addOk addD) (tVar 8) (tLc (iRng1 (tCons (tVar 3) tNil)) (gName 9) tYes (tOp (rD2 K subOk subD) (tVar 7) (tOp (rD2 K mulOkV mulD) (tCB (rDn K mmOk maxD) (tCons (tC (.int 0)) (tCons (tOp (rD2 K subOk subD) (tOp (rD2 K subOk subD) (tVar 3) (tVar 9)) (tVar 1)) tNil))) (tVar 2))) [9])))))))
def t_faults_for (K : PySem.W.Frag) (C : Str → Addr) (T : List (Addr × Str)) (E : XK) : TS :=
  (tSeq (tAsg (tCall (spF K (R_dark_of K C T)) [] E (tCons (tVar 0) (tCons (tVar 1) (tCons (tVar 2) (tCons (tVar 3) (tCons (tVar 4) (tCons (tVar 5) tNil))))))) (gName 7))
    (tSeq (tIfS (tAnd (tTest (tOp (rD2 K isOk isnD) (tVar 7) (tC .non))) (tTest (tOp (rD2 K ltXOk ltXD) (tVar 7) (tVar 6)))) (tRet (tC .non)) tNext)
    (tSeq (tAsg (tC (.int 0)) (gName 8))
    (tWhile (tB (tC (.bl true))) (tSeq (tFor (iRng1 (tCons (tVar 2) tNil)) (gName 9) (tSeq (tAsg (tCall (spF K (R_times_ahead K C T)) [] E (tCons (tVar 2) (tCons (tVar 3) (tCons (tVar 4) (tCons (tVar 5) (tCons (tVar 8) (tCons (tVar 9) tNil))))))) (gName 10))
    (tSeq (tAsg (tCall (spF K (R_finish_all K C T)) [] E (tCons (tVar 0) (tCons (tVar 1) (tCons (tLc (iSeq K (tVar 10)) (gName 12) tYes (tCall (spF K (R_read_at K C T)) [] E0 (tCons (tVar 2) (tCons (tVar 12) tNil))) [12]) tNil)))) (gName 11))
    (tIfS (tTest (tOp (rD2 K ordOk geD) (tOp (rD2 K subOk subD) (tOp (rD2 K ixOk ixD) (tVar 11) (tUn (rD1 K negOk negD) (tVar 5))) (tOp (rD2 K ixOk ixD) (tVar 10) (tUn (rD1 K negOk negD) (tC (.int 1))))) (tVar 6))) (tRet (tVar 10)) tNext))))
    (tAug 8 (tOp (rD2 K addOk addD) (tC (.int 1)) (tOp (rD2 K divOk divD) (tVar 8) (tC (.int 8)))) (ipI fun i j => i + j)))))))
theorem tah_split {e gp ph : Int} {b l s : Nat} : tah e gp b l s ph = ((List.range s).map fun (i : Nat) => fst e gp s ph - ((s : Int) - (i : Nat)) * gp) ++ List.replicate (b - l) (fst e gp s ph) ++ (List.range l).map fun (i : Nat) => (fst e gp s ph + mM b l * gp) - max 0 ((l : Int) - (i : Nat) - b) * gp := by
  unfold tah
  rw [show s + max b l = s + (b - l) + l by omega, List.range_add, List.range_add, List.map_append, List.map_append]
  congr 1
  · congr 1
    · apply List.map_congr_left
      intro i hi
      have hi := List.mem_range.mp hi
      have : min ((i : Int) - s) (mM b l) = -((s : Int) - (i : Nat)) := by unfold mM; omega
      rw [this, Int.neg_mul]
      omega
    · rw [List.map_map]
      apply List.ext_getElem
      · simp
      · intro i h1 h2
        simp only [List.getElem_map, List.getElem_range, List.getElem_replicate, Function.comp]
        simp only [List.length_replicate] at h2
        have : min (((s + i : Nat) : Int) - s) (mM b l) = 0 := by unfold mM; omega
        rw [this]
        omega
  · rw [List.map_map]
    apply List.map_congr_left
    intro i hi
    have hi := List.mem_range.mp hi
    show fst e gp s ph + min (((s + (b - l) + i : Nat) : Int) - s) (mM b l) * gp = _
    have : min (((s + (b - l) + i : Nat) : Int) - s) (mM b l) = mM b l - max 0 ((l : Int) - (i : Nat) - b) := by unfold mM; omega
    rw [this, Int.sub_mul]
    omega
theorem rd_times_ahead {e gp ph : Int} {b l s : Nat} {g} (he : 0 < e) (he2 : e ≤ 12) (hg : 0 < gp) (hg2 : gp ≤ 12) (hb : 0 < b) (hb2 : b ≤ 12) (hl : 0 < l) (hl2 : l ≤ 12) (hs : s ≤ 5000) :
    Run K E (t_times_ahead K C T E) ⟨[.dat (.int e), .dat (.int b), .dat (.int gp), .dat (.int l), .dat (.int s), .dat (.int ph), .unk, .unk, .unk, .unk], g⟩ (.rt (.list ((tah e gp b l s ph).map PyData.int)) ⟨[.dat (.int e), .dat (.int b), .dat (.int gp), .dat (.int l), .dat (.int s), .dat (.int ph), .unk, .unk, .unk, .unk], g⟩) := by
  have hz : 20000 ≤ sizeLine := le_size (by decide)
  apply run_seq
  · exact run_asg (ev_mulVI (ev_var rfl) (ev_var rfl) (Or.inr ⟨by omega, by omega⟩))
  walk_at "d"
  apply run_seq
  · exact run_aug rfl (ev_modI (ev_subI (ev_var rfl) (ev_var rfl)) (ev_var rfl) he)
  walk_at "d"
  have ef : ((s : Int) * gp + (ph - (s : Int) * gp) % e) = fst e gp s ph := rfl
  rw [ef]
  apply run_seq
  · apply run_asg (d := .int (fst e gp s ph + mM b l * gp))
    refine Ev.to (ev_addI (ev_var rfl) (ev_mulVI (ev_maxI ev_int (ev_subI (ev_var rfl) (ev_var rfl))) (ev_var rfl) (Or.inr ⟨by omega, by omega⟩))) ?_
    have : max 0 ((l : Int) - b) = mM b l := by unfold mM; omega
    rw [this]
  walk_at "d"
  apply run_seq
  · apply run_asg (d := .list ((((List.range s).map fun (i : Nat) => fst e gp s ph - ((s : Int) - (i : Nat)) * gp) ++ List.replicate (b - l) (fst e gp s ph)).map PyData.int))
    apply Ev.to
    · apply ev_addL
      · walk_at "lcR"
        exact ev_subI (ev_var rfl) (ev_mulVI (ev_subI (ev_var rfl) (ev_var rfl)) (ev_var rfl) (Or.inr ⟨by omega, by omega⟩))
      · apply ev_op2L (x := .list [.int (fst e gp s ph)]) (y := .int (max 0 ((b : Int) - l))) (f := repL)
        · exact ev_lst (ea_cons (ev_var rfl) ea_nil) (le_size (by simp))
        · exact ev_maxI ev_int (ev_subI (ev_var rfl) (ev_var rfl))
        · exact ⟨by omega, by omega, by simp; omega⟩
      · show _ + (List.replicate (max 0 ((b : Int) - l)).toNat [PyData.int (fst e gp s ph)]).flatten.length ≤ _
        rw [rep1]
        simp; omega
    · show PyData.list (_ ++ (List.replicate (max 0 ((b : Int) - l)).toNat [PyData.int (fst e gp s ph)]).flatten) = _
      rw [rep1, List.map_append, List.map_map, List.map_replicate, Int.toNat_natCast, show (max 0 ((b : Int) - l)).toNat = b - l by omega]
      rfl
  walk_at "d"
  apply run_retle
  · apply Ev.to
    · apply ev_addL
      · exact ev_var rfl
      · walk_at "lcR"
        exact ev_subI (ev_var rfl) (ev_mulVI (ev_maxI ev_int (ev_subI (ev_subI (ev_var rfl) (ev_var rfl)) (ev_var rfl))) (ev_var rfl) (Or.inr ⟨by omega, by omega⟩))
      · simp; omega
    · rw [tah_split, Int.toNat_natCast, List.map_append (l₁ := _ ++ _), List.map_map (l := List.range l)]
      rfl
  · exact Fo.le (by walk_at "fo")
theorem at_neg {ns : List Int} {k : Nat} (h0 : 0 < k) (h1 : k ≤ ns.length) : atI (ns.map PyData.int) (-(k : Int)) = some (.int (ns.getD (ns.length - k) 0)) := by
  unfold atI ixN
  rw [List.length_map, if_neg (by omega), if_pos (by omega)]
  show (ns.map PyData.int)[_]? = _
  rw [show (-(k : Int) + (ns.length : Int)).toNat = ns.length - k by omega, List.getElem?_map, List.getD_eq_getElem?_getD, List.getElem?_eq_getElem (by omega)]
  rfl
section
variable {c b l : Nat} {w e gp t : Int} {g : List (Addr × Str)} {lo : D}
/-- faults_for's state, s single ones -/
def ffS (c b l : Nat) (w e gp t : Int) (g : List (Addr × Str)) (lo : D) (s : Nat) : S := ⟨[.dat (.int c), .dat (.int w), .dat (.int e), .dat (.int b), .dat (.int gp), .dat (.int l), .dat (.int t), .dat lo, .dat (.int s), .unk, .unk, .unk, .unk], g⟩
theorem ff_turn (hc : 1 ≤ c ∧ c ≤ 4) (he : 1 ≤ e ∧ e ≤ 12) (hb : 1 ≤ b ∧ b ≤ 6) (hg : 1 ≤ gp ∧ gp ≤ 12) (hl : 1 ≤ l ∧ l ≤ 12) {s : Nat} (hs : s ≤ 5000) {ph : Nat} :
    Run K E (tSeq (tAsg (tCall (spF K (R_times_ahead K C T)) [] E (tCons (tVar 2) (tCons (tVar 3) (tCons (tVar 4) (tCons (tVar 5) (tCons (tVar 8) (tCons (tVar 9) tNil))))))) (gName 10))
    (tSeq (tAsg (tCall (spF K (R_finish_all K C T)) [] E (tCons (tVar 0) (tCons (tVar 1) (tCons (tLc (iSeq K (tVar 10)) (gName 12) tYes (tCall (spF K (R_read_at K C T)) [] E0 (tCons (tVar 2) (tCons (tVar 12) tNil))) [12]) tNil)))) (gName 11))
    (tIfS (tTest (tOp (rD2 K ordOk geD) (tOp (rD2 K subOk subD) (tOp (rD2 K ixOk ixD) (tVar 11) (tUn (rD1 K negOk negD) (tVar 5))) (tOp (rD2 K ixOk ixD) (tVar 10) (tUn (rD1 K negOk negD) (tC (.int 1))))) (tVar 6))) (tRet (tVar 10)) tNext)))
    ((ffS c b l w e gp t g lo s).set 9 (.dat (.int (ph : Nat)))) (if okT c w e gp b l t s ph = true then .rt (.list ((tah e gp b l s (ph : Nat)).map PyData.int)) (ffS c b l w e gp t g lo s) else .nx (ffS c b l w e gp t g lo s)) := by
  have tl := tah_len (e := e) (g := gp) (b := b) (l := l) (s := s) (ph := (ph : Nat))
  have fl : (fin c w ((tah e gp b l s (ph : Nat)).map (rdAt e))).length = s + max b l := by rw [fin_len, List.length_map, tl]
  unfold ffS
  walk_at "d"
  apply run_seq
  · apply run_asg
    apply ev_call
    · exact ea_cons (ev_var rfl) (ea_cons (ev_var rfl) (ea_cons (ev_var rfl) (ea_cons (ev_var rfl) (ea_cons (ev_var rfl) (ea_cons (ev_var rfl) ea_nil)))))
    · exact .mk (by omega) (by omega) (by omega) (by omega) (by omega) (by omega) (by omega) (by omega) hs
  walk_at "d"
  apply run_seq
  · apply run_asg (d := .list ((fin c w ((tah e gp b l s (ph : Nat)).map (rdAt e))).map PyData.int))
    apply ev_call
    · apply ea_cons
      · exact ev_var rfl
      apply ea_cons
      · exact ev_var rfl
      apply ea_cons
      · apply ev_lcI (ts := tah e gp b l s (ph : Nat)) (f := fun x => .int (rdAt e x))
        · exact ev_var rfl
        · rfl
        · rw [tl]; omega
        · walk_at "nr"
        · walk_at "hw"
        · intro x _
          walk_at "w"
          exact ev_call (ea_cons (ev_var rfl) (ea_cons (ev_var rfl) ea_nil)) (.mk (by omega) (by omega))
      exact ea_nil
    · exact .mk (by omega) (by omega) (by show some _ = some _; rw [List.map_map]; rfl) (by rw [List.length_map, tl]; omega)
  walk_at "d"
  have a1 := at_neg (ns := fin c w ((tah e gp b l s (ph : Nat)).map (rdAt e))) (k := l) (by omega) (by rw [fl]; omega)
  have a2 := at_neg (ns := tah e gp b l s (ph : Nat)) (k := 1) (by omega) (by rw [tl]; omega)
  rw [fl] at a1
  rw [tl] at a2
  have tst : EvT K (tTest (tOp (rD2 K ordOk geD) (tOp (rD2 K subOk subD) (tOp (rD2 K ixOk ixD) (tVar 11) (tUn (rD1 K negOk negD) (tVar 5))) (tOp (rD2 K ixOk ixD) (tVar 10) (tUn (rD1 K negOk negD) (tC (.int 1))))) (tVar 6))) ⟨[.dat (.int c), .dat (.int w), .dat (.int e), .dat (.int b), .dat (.int gp), .dat (.int l), .dat (.int t), .dat lo, .dat (.int s), .dat (.int (ph : Nat)), .dat (.list ((tah e gp b l s (ph : Nat)).map PyData.int)), .dat (.list ((fin c w ((tah e gp b l s (ph : Nat)).map (rdAt e))).map PyData.int)), .unk], g⟩ (okT c w e gp b l t s ph) ⟨[.dat (.int c), .dat (.int w), .dat (.int e), .dat (.int b), .dat (.int gp), .dat (.int l), .dat (.int t), .dat lo, .dat (.int s), .dat (.int (ph : Nat)), .dat (.list ((tah e gp b l s (ph : Nat)).map PyData.int)), .dat (.list ((fin c w ((tah e gp b l s (ph : Nat)).map (rdAt e))).map PyData.int)), .unk], g⟩ :=
    et_test (ev_geI (ev_subI (ev_ixL (ev_var rfl) (ev_negI (ev_var rfl)) a1) (ev_ixL (ev_var rfl) (ev_negI ev_int) a2)) (ev_var rfl))
  cases hk : okT c w e gp b l t s ph with
  | true =>
    rw [hk] at tst
    rw [if_pos rfl]
    refine run_yes tst (run_retle (ev_var rfl) ?_)
    exact Fo.le (by walk_at "fo")
  | false =>
    rw [hk] at tst
    rw [if_neg (by simp)]
    refine run_le (run_no tst run_next) ?_
    exact Fo.le (by walk_at "fo")
theorem ff_head (hc : 1 ≤ c ∧ c ≤ 4) (hw : 1 ≤ w ∧ w ≤ 12) (he : 1 ≤ e ∧ e ≤ 12) (hb : 1 ≤ b ∧ b ≤ 6) (hg : 1 ≤ gp ∧ gp ≤ 12) (hl : 1 ≤ l ∧ l ≤ 12) :
    Run K E (tAsg (tCall (spF K (R_dark_of K C T)) [] E (tCons (tVar 0) (tCons (tVar 1) (tCons (tVar 2) (tCons (tVar 3) (tCons (tVar 4) (tCons (tVar 5) tNil))))))) (gName 7)) ⟨[.dat (.int c), .dat (.int w), .dat (.int e), .dat (.int b), .dat (.int gp), .dat (.int l), .dat (.int t), .unk, .unk, .unk, .unk, .unk, .unk], g⟩ (.nx ⟨[.dat (.int c), .dat (.int w), .dat (.int e), .dat (.int b), .dat (.int gp), .dat (.int l), .dat (.int t), .dat (oD (darkO c w e b gp l)), .unk, .unk, .unk, .unk, .unk], g⟩) := by
  apply run_asg (s1 := ⟨[.dat (.int c), .dat (.int w), .dat (.int e), .dat (.int b), .dat (.int gp), .dat (.int l), .dat (.int t), .unk, .unk, .unk, .unk, .unk, .unk], g⟩)
  apply ev_call
  · exact ea_cons (ev_var rfl) (ea_cons (ev_var rfl) (ea_cons (ev_var rfl) (ea_cons (ev_var rfl) (ea_cons (ev_var rfl) (ea_cons (ev_var rfl) ea_nil)))))
  · exact .mk hc hw he (by omega) hg (by omega)
theorem rd_faults_for_no {L : Int} (hc : 1 ≤ c ∧ c ≤ 4) (hw : 1 ≤ w ∧ w ≤ 12) (he : 1 ≤ e ∧ e ≤ 12) (hb : 1 ≤ b ∧ b ≤ 6) (hg : 1 ≤ gp ∧ gp ≤ 12) (hl : 1 ≤ l ∧ l ≤ 12) (h : darkO c w e b gp l = some L) (h2 : L < t) :
    Run K E (t_faults_for K C T E) ⟨[.dat (.int c), .dat (.int w), .dat (.int e), .dat (.int b), .dat (.int gp), .dat (.int l), .dat (.int t), .unk, .unk, .unk, .unk, .unk, .unk], g⟩ (.rt .none ⟨[.dat (.int c), .dat (.int w), .dat (.int e), .dat (.int b), .dat (.int gp), .dat (.int l), .dat (.int t), .unk, .unk, .unk, .unk, .unk, .unk], g⟩) := by
  refine run_seq (ff_head hc hw he hb hg hl) ?_
  rw [h]
  refine run_end (run_yes (EvT.to (et_and (a := true) (EvT.to (et_test (ev_isnN (x := .int L) (ev_var rfl) ev_non)) rfl) fun _ => et_test (ev_ltI (a := L) (ev_var rfl) (ev_var rfl))) (by rw [decide_eq_true h2]; rfl)) (run_retle ev_non ?_)) rfl
  exact Fo.le (by walk_at "fo")
theorem rd_faults_for_ok {N : Nat} (hc : 1 ≤ c ∧ c ≤ 4) (hw : 1 ≤ w ∧ w ≤ 12) (he : 1 ≤ e ∧ e ≤ 12) (hb : 1 ≤ b ∧ b ≤ 6) (hg : 1 ≤ gp ∧ gp ≤ 12) (hl : 1 ≤ l ∧ l ≤ 12) (h : ∀ L, darkO c w e b gp l = some L → t ≤ L) (hN : N ≤ 900) (ff : FfOk c w e gp b l t N) :
    Run K E (t_faults_for K C T E) ⟨[.dat (.int c), .dat (.int w), .dat (.int e), .dat (.int b), .dat (.int gp), .dat (.int l), .dat (.int t), .unk, .unk, .unk, .unk, .unk, .unk], g⟩ (.rt (.list ((ffT c w e gp b l t).map PyData.int)) ⟨[.dat (.int c), .dat (.int w), .dat (.int e), .dat (.int b), .dat (.int gp), .dat (.int l), .dat (.int t), .unk, .unk, .unk, .unk, .unk, .unk], g⟩) := by
  refine run_seq (ff_head hc hw he hb hg hl) ?_
  apply run_seq
  · apply run_no
    · show EvT K _ _ false ⟨[.dat (.int c), .dat (.int w), .dat (.int e), .dat (.int b), .dat (.int gp), .dat (.int l), .dat (.int t), .dat (oD (darkO c w e b gp l)), .unk, .unk, .unk, .unk, .unk], g⟩
      cases hd : darkO c w e b gp l with
      | none => exact et_andF (EvT.to (et_test (ev_isnN (x := .none) (ev_var rfl) ev_non)) rfl)
      | some L =>
        have := h L hd
        exact EvT.to (et_and (a := true) (EvT.to (et_test (ev_isnN (x := .int L) (ev_var rfl) ev_non)) rfl) fun _ => et_test (ev_ltI (a := L) (ev_var rfl) (ev_var rfl))) (by rw [decide_eq_false (by omega)]; rfl)
    · exact run_next
  apply run_seq
  · exact run_asg ev_int
  walk_at "d"
  have sb : ∀ i, i ≤ ffI c w e gp b l t → sg i ≤ 1100 := fun i hi => by
    have := sg_le hi
    have := ff.s
    omega
  generalize oD (darkO c w e b gp l) = lo
  have head : ∀ i, i ≤ ffI c w e gp b l t → IterD K (iRng1 (tCons (tVar 2) tNil)) (ffS c b l w e gp t g lo (sg i)) (DL.upTo 0 e.toNat) (ffS c b l w e gp t g lo (sg i)) := fun i _ => it_r1 (ev_var rfl) (by omega)
  refine run_whileG (fun i => ffS c b l w e gp t g lo (sg i)) (fun i => ffS c b l w e gp t g lo (sg i)) (s1 := ⟨[], g⟩) (ffI c w e gp b l t) (Fo.le (by walk_at "fo")) (fun i hi => ⟨et_B ev_bl, ?_⟩) (.inr ⟨.rt (.list ((ffT c w e gp b l t).map PyData.int)) ⟨[.dat (.int c), .dat (.int w), .dat (.int e), .dat (.int b), .dat (.int gp), .dat (.int l), .dat (.int t), .unk, .unk, .unk, .unk, .unk, .unk], g⟩, et_B ev_bl, ?_, rfl, rfl⟩)
  · apply run_seq
    · refine run_forAll (s0 := ffS c b l w e gp t g lo (sg i)) (fun _ => false) (head i (by omega)) (SLe.refl _) (fun _ _ => rfl) fun d hd _ => ?_
      obtain ⟨ph, hp, rfl⟩ := upTo_mem.mp hd
      refine ⟨_, tg_name, ?_⟩
      have := ff_turn (K := K) (C := C) (T := T) (E := E) (w := w) (t := t) (g := g) (lo := lo) hc he hb hg hl (by have := sb i (by omega); omega) (s := sg i) (ph := ph)
      rw [ff.no i hi ph hp, if_neg (by simp)] at this
      rw [show (0 : Int) + (ph : Int) = (ph : Nat) by omega]
      exact this
    · refine run_le (run_aug (a := sg i) rfl (ev_addI ev_int (ev_divI (ev_var rfl) ev_int (by decide)))) ?_
      unfold ffS
      walk_at "d"
      refine Fo.le ?_
      apply Fo.same; apply Fo.same; apply Fo.same; apply Fo.same; apply Fo.same; apply Fo.same; apply Fo.same; apply Fo.same
      refine Fo.int ?_ (by walk_at "fo")
      show (sg i : Int) + (1 + (sg i : Int) / 8) = ((sg i + (1 + sg i / 8) : Nat) : Int)
      omega
  · refine run_end (run_rtle (s1 := ffS c b l w e gp t g lo (sg (ffI c w e gp b l t))) ?_ (Fo.le (by walk_at "fo"))) rfl
    have pl := ff.p
    refine run_forG (fun _ => ffS c b l w e gp t g lo (sg (ffI c w e gp b l t))) (ffP c w e gp b l t) (head _ (Nat.le_refl _)) (SLe.refl _) (by rw [upTo_len]; omega) (fun i d hi hd => ?_) (.inr ⟨.int ((ffP c w e gp b l t : Nat)), _, .rt (.list ((ffT c w e gp b l t).map PyData.int)) (ffS c b l w e gp t g lo (sg (ffI c w e gp b l t))), ?_, tg_name, ?_, rfl, rfl⟩)
    · obtain ⟨_, rfl⟩ := upTo_get hd
      refine ⟨_, tg_name, ?_⟩
      have := ff_turn (K := K) (C := C) (T := T) (E := E) (w := w) (t := t) (g := g) (lo := lo) hc he hb hg hl (by have := sb _ (Nat.le_refl _); omega) (s := sg (ffI c w e gp b l t)) (ph := i)
      rw [ff.noP i hi, if_neg (by simp)] at this
      rw [show (0 : Int) + (i : Int) = (i : Nat) by omega]
      exact this
    · rw [upTo_getN pl]
      congr 2
      omega
    · have := ff_turn (K := K) (C := C) (T := T) (E := E) (w := w) (t := t) (g := g) (lo := lo) hc he hb hg hl (by have := sb _ (Nat.le_refl _); omega) (s := sg (ffI c w e gp b l t)) (ph := ffP c w e gp b l t)
      rw [ff.ok, if_pos rfl] at this
      exact this
end
end CM

/-! k07: what is judged -/
namespace K07
open PySem PySem.Spec L2 DL CM M06
/-- whether ticks are faults the last one of which waits for so long -/
def isWI (c : Nat) (w e b g t : Int) (ns : List Int) : Bool := areTimes (.tuple (ns.map PyData.int)) && ((decide (1 ≤ (ns.length : Int)) && decide ((ns.length : Int) ≤ 600)) && (kept2 b g ns && decide (t ≤ (waits c w e ns).getD (ns.length - 1) 0)))
/-- the law's own row of bad ticks behind one -/
def rowL (b g : Int) (ns : List Int) (a : Nat) : List D := (DL.upTo a ((ns.length : Int) - a).toNat).filter fun to => decide (ns.getD (ofInt to).toNat 0 - ns.getD a 0 < (ofInt to - a + 1 - b) * g)
def badL (b g : Int) (ns : List Int) (a : Nat) : Bool := (decide (0 < (a : Int)) && decide (ns.getD a 0 < ns.getD (a - 1) 0)) || decide (rowL b g ns a ≠ [])
def tickI (n : Int) : Bool := decide (0 ≤ n) && decide (n ≤ 10000)
def dueL (c : Nat) (w e b g t : Int) (ns : List Int) : Bool := (decide (1 ≤ (ns.length : Int)) && decide ((ns.length : Int) ≤ 600)) && (ns.all tickI && ((List.range ns.length).all (fun a => !badL b g ns a) && decide (t ≤ (lends c w (ns.map (rdAt e))).getD (ns.length - 1) 0 - ns.getD (ns.length - 1) 0)))
theorem areTimes_i (ns : List Int) : areTimes (.tuple (ns.map PyData.int)) = (decide (ns.length ≤ 1000) && (ns.all tickI && asc ns)) := by
  show (decide ((ns.map PyData.int).length ≤ 1000) && ((ns.map PyData.int).all isTick && asc ((intsOf (ns.map PyData.int)).getD []))) = _
  rw [intsOf_map, List.length_map, List.all_map]
  rfl
theorem asc_pairs {ns : List Int} (h : asc ns = true) : ∀ j, j + 1 < ns.length → ns.getD j 0 ≤ ns.getD (j + 1) 0 := by
  intro j hj
  unfold asc at h
  rw [List.all_eq_true] at h
  have h1 : j < ns.length := by omega
  have hz : (ns.zip (ns.drop 1))[j]? = some (ns[j], ns[j + 1]) := by
    rw [List.getElem?_zip_eq_some]
    refine ⟨List.getElem?_eq_getElem h1, ?_⟩
    rw [List.getElem?_drop, Nat.add_comm 1 j, List.getElem?_eq_getElem hj]
  have := h _ (List.mem_of_getElem? hz)
  rw [List.getD_eq_getElem?_getD, List.getD_eq_getElem?_getD, List.getElem?_eq_getElem h1, List.getElem?_eq_getElem hj]
  simpa using this
theorem step_mono {ns : List Int} (h : ∀ j, j + 1 < ns.length → ns.getD j 0 ≤ ns.getD (j + 1) 0) : ∀ i j, i ≤ j → j < ns.length → ns.getD i 0 ≤ ns.getD j 0 := by
  intro i j hij hj
  induction j with
  | zero => rw [show i = 0 by omega]; exact Int.le_refl _
  | succ j ih =>
    by_cases c : i = j + 1
    · rw [c]; exact Int.le_refl _
    · exact Int.le_trans (ih (by omega) (by omega)) (h j hj)
theorem row_nil {b g : Int} {ns : List Int} {a : Nat} : rowL b g ns a = [] ↔ ∀ j, a ≤ j → j < ns.length → ns.getD a 0 + ((j : Int) - a + 1 - b) * g ≤ ns.getD j 0 := by
  unfold rowL
  rw [List.filter_eq_nil_iff]
  constructor
  · intro h j h1 h2
    have := h (.int j) (upTo_mem.mpr ⟨j - a, by omega, by congr 1; omega⟩)
    rw [decide_eq_true_eq] at this
    have this : ¬ (ns.getD j 0 - ns.getD a 0 < ((j : Int) - a + 1 - b) * g) := this
    omega
  · intro h d hd
    obtain ⟨x, hx, rfl⟩ := upTo_mem.mp hd
    have := h (a + x) (by omega) (by omega)
    rw [decide_eq_true_eq]
    show ¬ (ns.getD ((a : Int) + (x : Int)).toNat 0 - ns.getD a 0 < ((a : Int) + (x : Int) - a + 1 - b) * g)
    rw [show ((a : Int) + (x : Int)).toNat = a + x by omega, show ((a : Int) + (x : Int) - a + 1 - b) = ((a + x : Nat) : Int) - a + 1 - b by omega]
    omega
theorem due_eq {c : Nat} {w e b g t : Int} {ns : List Int} (hc : 0 < c) (hw : 0 ≤ w) (he : 0 < e) (hb : 1 ≤ b) (hg : 0 < g) : dueL c w e b g t ns = isWI c w e b g t ns := by
  unfold dueL isWI
  rw [areTimes_i]
  by_cases hl : (decide (1 ≤ (ns.length : Int)) && decide ((ns.length : Int) ≤ 600)) = true
  · rw [hl]
    have hl2 : 1 ≤ ns.length ∧ ns.length ≤ 600 := by
      rw [Bool.and_eq_true, decide_eq_true_eq, decide_eq_true_eq] at hl
      omega
    rw [decide_eq_true (show ns.length ≤ 1000 by omega)]
    cases ht : ns.all tickI with
    | false => rfl
    | true =>
      simp only [Bool.true_and]
      have key : (List.range ns.length).all (fun a => !badL b g ns a) = (asc ns && kept2 b g ns) := by
        rw [Bool.eq_iff_iff, List.all_eq_true, Bool.and_eq_true]
        constructor
        · intro h
          have h1 : ∀ a, a < ns.length → (a = 0 ∨ ns.getD (a - 1) 0 ≤ ns.getD a 0) ∧ rowL b g ns a = [] := fun a ha => by
            have := h a (List.mem_range.mpr ha)
            rw [Bool.not_eq_true'] at this
            unfold badL at this
            rw [Bool.or_eq_false_iff, Bool.and_eq_false_iff, decide_eq_false_iff_not, decide_eq_false_iff_not, decide_eq_false_iff_not] at this
            refine ⟨?_, Classical.not_not.mp this.2⟩
            rcases this.1 with h | h
            · left; omega
            · right; omega
          have hs := step_mono (ns := ns) fun j hj => by
            rcases (h1 (j + 1) hj).1 with h | h
            · omega
            · exact h
          refine ⟨pw_asc (getD_pw hs), kept_of ⟨hs, fun i j hij hj => ?_⟩ (by omega)⟩
          have := row_nil.mp (h1 i (by omega)).2 j hij hj
          rw [show (j : Int) + 1 - i - b = (j : Int) - i + 1 - b by omega]
          exact this
        · rintro ⟨ha, hk⟩ a hal
          have hal := List.mem_range.mp hal
          have hs := step_mono (asc_pairs ha)
          rw [Bool.not_eq_true']
          unfold badL
          rw [Bool.or_eq_false_iff, Bool.and_eq_false_iff, decide_eq_false_iff_not, decide_eq_false_iff_not, decide_eq_false_iff_not]
          refine ⟨?_, fun z => z (row_nil.mpr fun j h1 h2 => ?_)⟩
          · by_cases z : a = 0
            · left; omega
            · right
              have := hs (a - 1) a (by omega) hal
              omega
          · by_cases near : (j : Int) - a + 1 ≤ b
            · have h3 : ((j : Int) - a + 1 - b) * g ≤ 0 * g := Int.mul_le_mul_of_nonneg_right (by omega) (by omega)
              have := hs a j h1 h2
              omega
            · unfold kept2 at hk
              rw [Bool.not_eq_true', List.any_eq_false] at hk
              have k1 := hk (.int a) (upTo_mem.mpr ⟨a, hal, by congr 1; omega⟩)
              unfold rowB at k1
              rw [Bool.not_eq_true, List.any_eq_false] at k1
              have k2 := k1 (.int j) (by
                unfold tos
                exact upTo_mem.mpr ⟨((j : Int) - (a + b)).toNat, by show _ < ((ns.length : Int) - ((a : Int) + b)).toNat; omega, by show PyData.int _ = PyData.int ((a : Int) + b + _); congr 1; omega⟩)
              unfold badB at k2
              rw [decide_eq_true_eq] at k2
              have k2 : ¬ (ns.getD j 0 - ns.getD a 0 < ((j : Int) - a + 1 - b) * g) := k2
              omega
      rw [key]
      cases ha : asc ns with
      | false => rfl
      | true =>
        have hs := step_mono (asc_pairs ha)
        have hp := pw_rd he (getD_pw hs)
        rw [lends_qe hc hw hp, waits_getD (by omega), fin_qe hc hw hp]
        simp only [Bool.true_and]
  · have hl : (decide (1 ≤ (ns.length : Int)) && decide ((ns.length : Int) ≤ 600)) = false := by simpa using hl
    rw [hl]
    simp
/-- what faults_for tells is judged so -/
theorem ff_due {c b N : Nat} {w e g t : Int} (hc : 1 ≤ c ∧ c ≤ 4) (hw : 1 ≤ w ∧ w ≤ 12) (he : 1 ≤ e ∧ e ≤ 12) (hb : 1 ≤ b ∧ b ≤ 6) (hg : 1 ≤ g ∧ g ≤ 12) (hN : N ≤ 400) (ff : FfOk c w e g b 1 t N) : isWI c w e b g t (ffT c w e g b 1 t) = true ∧ (ffT c w e g b 1 t).length ≤ 500 := by
  have ok := ff.ok
  have hs := ff.s
  unfold ffT
  generalize sg (ffI c w e g b 1 t) = s at ok hs ⊢
  generalize ffP c w e g b 1 t = ph at ok ⊢
  have hl : (tah e g b 1 s (ph : Nat)).length = s + max b 1 := tah_len
  have kp := tah_kp (e := e) (g := g) (b := b) (l := 1) (s := s) (ph := (ph : Nat)) (by omega) (by omega) (by omega)
  have m0 : mM b 1 = 0 := by unfold mM; omega
  have bd : ∀ j, j < s + max b 1 → 0 ≤ (tah e g b 1 s (ph : Nat)).getD j 0 ∧ (tah e g b 1 s (ph : Nat)).getD j 0 ≤ 10000 := fun j hj => by
    have h1 := tah_lo (e := e) (g := g) (b := b) (l := 1) (s := s) (ph := (ph : Nat)) (by omega) (by omega) hj
    have h2 := tah_hi (e := e) (g := g) (b := b) (l := 1) (s := s) (ph := (ph : Nat)) (by omega) (by omega) hj
    rw [m0] at h2
    have h3 : (s : Int) * g ≤ (s : Int) * 12 := Int.mul_le_mul_of_nonneg_left (by omega) (by omega)
    omega
  refine ⟨?_, by rw [hl]; omega⟩
  unfold isWI
  have a1 : areTimes (.tuple ((tah e g b 1 s (ph : Nat)).map PyData.int)) = true := times_of (getD_pw kp.s) (by omega) fun x hx => by
    obtain ⟨j, hj, rfl⟩ := List.mem_iff_getElem.mp hx
    have := bd j (by omega)
    rw [List.getD_eq_getElem?_getD, List.getElem?_eq_getElem hj] at this
    exact this
  have a2 := kept_of kp (by omega)
  have a3 : t ≤ (waits c w e (tah e g b 1 s (ph : Nat))).getD ((tah e g b 1 s (ph : Nat)).length - 1) 0 := by
    rw [waits_getD (by omega), hl]
    exact of_decide_eq_true ok
  rw [a1, a2, decide_eq_true a3, decide_eq_true (by omega), decide_eq_true (by omega)]
  rfl
end K07

namespace K07
open PySem PySem.Spec PyProof.Rows L2 DL CM M06
variable {K : PySem.W.Frag} {C : Str → Addr} {T : List (Addr × Str)} {E : XK}
def isWV (c : Nat) (w e b g t : Int) : D → Bool
  | .tuple ds => isWI c w e b g t ((intsOf ds).getD [])
  | _ => false
theorem isWV_t {c : Nat} {w e b g t : Int} {ns : List Int} : isWV c w e b g t (.tuple (ns.map PyData.int)) = isWI c w e b g t ns := by
  show isWI c w e b g t ((intsOf (ns.map PyData.int)).getD []) = _
  rw [intsOf_map]; rfl
inductive R_waiting (K : PySem.W.Frag) (C : Str → Addr) (T : List (Addr × Str)) : FR
  | none {c b : Nat} {w e gp t L : Int} {g} (hc : 1 ≤ c ∧ c ≤ 4) (hw : 1 ≤ w ∧ w ≤ 12) (he : 1 ≤ e ∧ e ≤ 12) (hb : 1 ≤ b ∧ b ≤ 6) (hg : 1 ≤ gp ∧ gp ≤ 12) (ht : 0 ≤ t ∧ t ≤ 120) (h : darkO c w e b gp (1 : Nat) = some L) (h2 : L < t) : R_waiting K C T ⟨[.dat (.int c), .dat (.int w), .dat (.int e), .dat (.int b), .dat (.int gp), .dat (.int t)], g⟩ (.rt .none ⟨[.dat (.int c), .dat (.int w), .dat (.int e), .dat (.int b), .dat (.int gp), .dat (.int t)], g⟩)
  | ok {c b N : Nat} {w e gp t : Int} {g} (hc : 1 ≤ c ∧ c ≤ 4) (hw : 1 ≤ w ∧ w ≤ 12) (he : 1 ≤ e ∧ e ≤ 12) (hb : 1 ≤ b ∧ b ≤ 6) (hg : 1 ≤ gp ∧ gp ≤ 12) (ht : 0 ≤ t ∧ t ≤ 120) (h : ∀ L, darkO c w e b gp (1 : Nat) = some L → t ≤ L) (hN : N ≤ 900) (ff : FfOk c w e gp b 1 t N) : R_waiting K C T ⟨[.dat (.int c), .dat (.int w), .dat (.int e), .dat (.int b), .dat (.int gp), .dat (.int t)], g⟩ (.rt (.tuple ((ffT c w e gp b 1 t).map PyData.int)) ⟨[.dat (.int c), .dat (.int w), .dat (.int e), .dat (.int b), .dat (.int gp), .dat (.int t)], g⟩)
  | no {x1 x2 x3 x4 x5 x6 x g} (n1 : noScr x1 = true) (n2 : noScr x2 = true) (n3 : noScr x3 = true) (n4 : noScr x4 = true) (n5 : noScr x5 = true) (h : chk5 x1 x2 x3 x4 x5 = some x) : R_waiting K C T ⟨[.dat x1, .dat x2, .dat x3, .dat x4, .dat x5, .dat x6], g⟩ (.ex (C "BadArgument") "name" (.str x) ⟨[.dat x1, .dat x2, .dat x3, .dat x4, .dat x5, .dat x6], g⟩)
  | no6 {x1 x2 x3 x4 x5 x6 g} (n1 : noScr x1 = true) (n2 : noScr x2 = true) (n3 : noScr x3 = true) (n4 : noScr x4 = true) (n5 : noScr x5 = true) (n6 : noScr x6 = true) (h : chk5 x1 x2 x3 x4 x5 = none) (h6 : isIn x6 0 120 = false) : R_waiting K C T ⟨[.dat x1, .dat x2, .dat x3, .dat x4, .dat x5, .dat x6], g⟩ (.ex (C "BadArgument") "name" (.str "ticks") ⟨[.dat x1, .dat x2, .dat x3, .dat x4, .dat x5, .dat x6], g⟩)
inductive R_is_waiting (K : PySem.W.Frag) (C : Str → Addr) (T : List (Addr × Str)) : FR
  | tup {c b : Nat} {w e gp t : Int} {ns : List Int} {g} (hc : 1 ≤ c ∧ c ≤ 4) (hw : 1 ≤ w ∧ w ≤ 12) (he : 1 ≤ e ∧ e ≤ 12) (hb : 1 ≤ b ∧ b ≤ 6) (hg : 1 ≤ gp ∧ gp ≤ 12) (ht : 0 ≤ t ∧ t ≤ 120) (hl : ns.length ≤ 2000) : R_is_waiting K C T ⟨[.dat (.int c), .dat (.int w), .dat (.int e), .dat (.int b), .dat (.int gp), .dat (.int t), .dat (.tuple (ns.map PyData.int))], g⟩ (.rt (.bool (isWI c w e b gp t ns)) ⟨[.dat (.int c), .dat (.int w), .dat (.int e), .dat (.int b), .dat (.int gp), .dat (.int t), .dat (.tuple (ns.map PyData.int))], g⟩)
  | oth {c b : Nat} {w e gp t : Int} {v : D} {g} (hc : 1 ≤ c ∧ c ≤ 4) (hw : 1 ≤ w ∧ w ≤ 12) (he : 1 ≤ e ∧ e ≤ 12) (hb : 1 ≤ b ∧ b ≤ 6) (hg : 1 ≤ gp ∧ gp ≤ 12) (ht : 0 ≤ t ∧ t ≤ 120) (n : noScr v = true) (n2 : deep1 v = true) (hv : isiD "tuple" v = false) : R_is_waiting K C T ⟨[.dat (.int c), .dat (.int w), .dat (.int e), .dat (.int b), .dat (.int gp), .dat (.int t), .dat v], g⟩ (.rt (.bool false) ⟨[.dat (.int c), .dat (.int w), .dat (.int e), .dat (.int b), .dat (.int gp), .dat (.int t), .dat v], g⟩)
  | no {x1 x2 x3 x4 x5 x6 x7 x g} (n1 : noScr x1 = true) (n2 : noScr x2 = true) (n3 : noScr x3 = true) (n4 : noScr x4 = true) (n5 : noScr x5 = true) (h : chk5 x1 x2 x3 x4 x5 = some x) : R_is_waiting K C T ⟨[.dat x1, .dat x2, .dat x3, .dat x4, .dat x5, .dat x6, .dat x7], g⟩ (.ex (C "BadArgument") "name" (.str x) ⟨[.dat x1, .dat x2, .dat x3, .dat x4, .dat x5, .dat x6, .dat x7], g⟩)
  | no6 {x1 x2 x3 x4 x5 x6 x7 g} (n1 : noScr x1 = true) (n2 : noScr x2 = true) (n3 : noScr x3 = true) (n4 : noScr x4 = true) (n5 : noScr x5 = true) (n6 : noScr x6 = true) (h : chk5 x1 x2 x3 x4 x5 = none) (h6 : isIn x6 0 120 = false) : R_is_waiting K C T ⟨[.dat x1, .dat x2, .dat x3, .dat x4, .dat x5, .dat x6, .dat x7], g⟩ (.ex (C "BadArgument") "name" (.str "ticks") ⟨[.dat x1, .dat x2, .dat x3, .dat x4, .dat x5, .dat x6, .dat x7], g⟩)
inductive R__law_is_due (K : PySem.W.Frag) (C : Str → Addr) (T : List (Addr × Str)) : FR
  | tup {p : PL} {t : Int} {ns : List Int} {g} (hp : POk p) (hl : ns.length ≤ 2000) : R__law_is_due K C T ⟨[.dat (plD p), .dat (.int t), .dat (.tuple (ns.map PyData.int))], g⟩ (.rt (.bool (isWI p.crews.toNat p.work p.every p.burst p.gap t ns)) ⟨[.dat (plD p), .dat (.int t), .dat (.tuple (ns.map PyData.int))], g⟩)
  | oth {p : PL} {t : Int} {v : D} {g} (n : noScr v = true) (hv : isiD "tuple" v = false) : R__law_is_due K C T ⟨[.dat (plD p), .dat (.int t), .dat v], g⟩ (.rt (.bool false) ⟨[.dat (plD p), .dat (.int t), .dat v], g⟩)
def t_waiting (K : PySem.W.Frag) (C : Str → Addr) (T : List (Addr × Str)) (E : XK) : TS :=
  (tSeq (tDrop (tCall (spF K (R_demand_all K C T)) [] E (tCons (tVar 0) (tCons (tVar 1) (tCons (tVar 2) (tCons (tVar 3) (tCons (tVar 4) tNil)))))))
    (tSeq (tDrop (tCall (spF K (R_demand K C T)) [] E (tCons (tCall (spF K (R_is_in K C T)) [] E (tCons (tVar 5) (tCons (tC (.int 0)) (tCons (tC (.int 120)) tNil)))) (tCons (tC (.str "ticks")) tNil))))
    (tSeq (tAsg (tCall (spF K (R_faults_for K C T)) [] E (tCons (tVar 0) (tCons (tVar 1) (tCons (tVar 2) (tCons (tVar 3) (tCons (tVar 4) (tCons (tC (.int 1)) (tCons (tVar 5) tNil)))))))) (gName 6))
    (tRet (tIf (tTest (tOp (rD2 K isOk isD) (tVar 6) (tC .non))) (tC .non) (tCB (rDn K seqOk tupD) (tCons (tVar 6) tNil)))))))
def t_is_waiting (K : PySem.W.Frag) (C : Str → Addr) (T : List (Addr × Str)) (E : XK) : TS :=
  (tSeq (tDrop (tCall (spF K (R_demand_all K C T)) [] E (tCons (tVar 0) (tCons (tVar 1) (tCons (tVar 2) (tCons (tVar 3) (tCons (tVar 4) tNil)))))))
    (tSeq (tDrop (tCall (spF K (R_demand K C T)) [] E (tCons (tCall (spF K (R_is_in K C T)) [] E (tCons (tVar 5) (tCons (tC (.int 0)) (tCons (tC (.int 120)) tNil)))) (tCons (tC (.str "ticks")) tNil))))
    (tSeq (tIfS (tOr (tNot (tB (tCall (spF K (R_are_times K C T)) [] E (tCons (tVar 6) tNil)))) (tOr (tNot (tTest (tChain (rD2 K ordOk leD) (rD2 K ordOk leD) (tC (.int 1)) (tCB (rDn K lenOk lenD) (tCons (tVar 6) tNil)) (tC (.int 600))))) (tNot (tB (tCall (spF K (R_are_kept K C T)) [] E (tCons (tVar 3) (tCons (tVar 4) (tCons (tVar 6) tNil)))))))) (tRet (tC (.bl false))) tNext)
    (tRet (tOp (rD2 K ordOk geD) (tOp (rD2 K ixOk ixD) (tCall (spF K (R_wait_all K C T)) [] E (tCons (tVar 0) (tCons (tVar 1) (tCons (tVar 2) (tCons (tVar 6) tNil))))) (tUn (rD1 K negOk negD) (tC (.int 1)))) (tVar 5))))))
def t__law_is_due (K : PySem.W.Frag) (C : Str → Addr) (T : List (Addr × Str)) (E : XK) : TS :=
  (tSeq (tIfS (tOr (tNot (tB (tCB (rIsi K) (tCons (tVar 2) (tCons (tC (.ty "tuple")) tNil))))) (tNot (tTest (tChain (rD2 K ordOk leD) (rD2 K ordOk leD) (tC (.int 1)) (tCB (rDn K lenOk lenD) (tCons (tVar 2) tNil)) (tC (.int 600)))))) (tRet (tC (.bl false))) tNext)
    (tSeq (tIfS (tTest (tOp (rD2 K eqOk neD) (tLc (iSeq K (tVar 2)) (gName 5) (tOr (tNot (tB (tCB (rIsi K) (tCons (tVar 5) (tCons (tC (.ty "int")) tNil))))) (tOr (tB (tCB (rIsi K) (tCons (tVar 5) (tCons (tC (.ty "bool")) tNil)))) (tNot (tTest (tChain (rD2 K ordOk leD) (rD2 K ordOk leD) (tC (.int 0)) (tVar 5) (tC (.int 10000))))))) (tC (.int 1)) [5]) (tLst tNil))) (tRet (tC (.bl false))) tNext)
    (tSeq (tFor (iRng1 (tCons (tCB (rDn K lenOk lenD) (tCons (tVar 2) tNil)) tNil)) (gName 3) (tSeq (tIfS (tAnd (tTest (tOp (rD2 K ordOk gtD) (tVar 3) (tC (.int 0)))) (tTest (tOp (rD2 K ltXOk ltXD) (tOp (rD2 K ixOk ixD) (tVar 2) (tVar 3)) (tOp (rD2 K ixOk ixD) (tVar 2) (tOp (rD2 K subOk subD) (tVar 3) (tC (.int 1))))))) (tRet (tC (.bl false))) tNext)
    (tIfS (tTest (tOp (rD2 K eqOk neD) (tLc (iRng2 (tCons (tVar 3) (tCons (tCB (rDn K lenOk lenD) (tCons (tVar 2) tNil)) tNil))) (gName 6) (tTest (tOp (rD2 K ltXOk ltXD) (tOp (rD2 K subOk subD) (tOp (rD2 K ixOk ixD) (tVar 2) (tVar 6)) (tOp (rD2 K ixOk ixD) (tVar 2) (tVar 3))) (tOp (rD2 K mulOkV mulD) (tOp (rD2 K subOk subD) (tOp (rD2 K addOk addD) (tOp (rD2 K subOk subD) (tVar 6) (tVar 3)) (tC (.int 1))) (tDGet (tVar 0) (tC (.str "burst")))) (tDGet (tVar 0) (tC (.str "gap")))))) (tVar 6) [6]) (tLst tNil))) (tRet (tC (.bl false))) tNext)))
    (tSeq (tAsg (tCall (spF K (R__law_l_ends K C T)) [] E (tCons (tDGet (tVar 0) (tC (.str "crews"))) (tCons (tDGet (tVar 0) (tC (.str "work"))) (tCons (tLc (iSeq K (tVar 2)) (gName 5) tYes (tCall (spF K (R__law_l_told K C T)) [] E0 (tCons (tDGet (tVar 0) (tC (.str "every"))) (tCons (tVar 5) tNil))) [5]) tNil)))) (gName 4))
    (tRet (tOp (rD2 K ordOk geD) (tOp (rD2 K subOk subD) (tOp (rD2 K ixOk ixD) (tVar 4) (tUn (rD1 K negOk negD) (tC (.int 1)))) (tOp (rD2 K ixOk ixD) (tVar 2) (tUn (rD1 K negOk negD) (tC (.int 1))))) (tVar 1)))))))
theorem rd_waiting_none {c b : Nat} {w e gp t L : Int} {g} (hc : 1 ≤ c ∧ c ≤ 4) (hw : 1 ≤ w ∧ w ≤ 12) (he : 1 ≤ e ∧ e ≤ 12) (hb : 1 ≤ b ∧ b ≤ 6) (hg : 1 ≤ gp ∧ gp ≤ 12) (ht : 0 ≤ t ∧ t ≤ 120) (h : darkO c w e b gp (1 : Nat) = some L) (h2 : L < t) : Run K E (t_waiting K C T E) ⟨[.dat (.int c), .dat (.int w), .dat (.int e), .dat (.int b), .dat (.int gp), .dat (.int t), .unk], g⟩ (.rt .none ⟨[.dat (.int c), .dat (.int w), .dat (.int e), .dat (.int b), .dat (.int gp), .dat (.int t), .unk], g⟩) := by
  have a1 : isIn (.int t) 0 120 = true := isIn_i ht.1 ht.2
  refine run_seq (run_drop (ev_call (ea_cons (ev_var rfl) (ea_cons (ev_var rfl) (ea_cons (ev_var rfl) (ea_cons (ev_var rfl) (ea_cons (ev_var rfl) ea_nil))))) (.ok rfl rfl rfl rfl rfl (chk5_i (by omega) hw he (by omega) hg)))) ?_
  walk_at "s"
  apply run_seq
  · apply run_asg
    apply ev_call
    · exact ea_cons (ev_var rfl) (ea_cons (ev_var rfl) (ea_cons (ev_var rfl) (ea_cons (ev_var rfl) (ea_cons (ev_var rfl) (ea_cons ev_int (ea_cons (ev_var rfl) ea_nil))))))
    · exact .no (l := 1) hc hw he hb hg (by omega) h h2
  walk_at "d"
  refine run_retle (ev_ifT (EvT.to (et_test (ev_isN (x := .none) (ev_var rfl) ev_non)) rfl) ev_non) ?_
  exact Fo.le (by walk_at "fo")
theorem rd_waiting_ok {c b N : Nat} {w e gp t : Int} {g} (hc : 1 ≤ c ∧ c ≤ 4) (hw : 1 ≤ w ∧ w ≤ 12) (he : 1 ≤ e ∧ e ≤ 12) (hb : 1 ≤ b ∧ b ≤ 6) (hg : 1 ≤ gp ∧ gp ≤ 12) (ht : 0 ≤ t ∧ t ≤ 120) (h : ∀ L, darkO c w e b gp (1 : Nat) = some L → t ≤ L) (hN : N ≤ 900) (ff : FfOk c w e gp b 1 t N) : Run K E (t_waiting K C T E) ⟨[.dat (.int c), .dat (.int w), .dat (.int e), .dat (.int b), .dat (.int gp), .dat (.int t), .unk], g⟩ (.rt (.tuple ((ffT c w e gp b 1 t).map PyData.int)) ⟨[.dat (.int c), .dat (.int w), .dat (.int e), .dat (.int b), .dat (.int gp), .dat (.int t), .unk], g⟩) := by
  have a1 : isIn (.int t) 0 120 = true := isIn_i ht.1 ht.2
  refine run_seq (run_drop (ev_call (ea_cons (ev_var rfl) (ea_cons (ev_var rfl) (ea_cons (ev_var rfl) (ea_cons (ev_var rfl) (ea_cons (ev_var rfl) ea_nil))))) (.ok rfl rfl rfl rfl rfl (chk5_i (by omega) hw he (by omega) hg)))) ?_
  walk_at "s"
  apply run_seq
  · apply run_asg
    apply ev_call
    · exact ea_cons (ev_var rfl) (ea_cons (ev_var rfl) (ea_cons (ev_var rfl) (ea_cons (ev_var rfl) (ea_cons (ev_var rfl) (ea_cons ev_int (ea_cons (ev_var rfl) ea_nil))))))
    · exact .ok (l := 1) hc hw he hb hg (by omega) h hN ff
  walk_at "d"
  refine run_retle (ev_ifF (EvT.to (et_test (ev_isN (x := .list _) (ev_var rfl) ev_non)) rfl) (ev_tupL (ev_var rfl))) ?_
  exact Fo.le (by walk_at "fo")
theorem rd_waiting_no {x1 x2 x3 x4 x5 x6 : D} {x : Str} {g} (n1 : noScr x1 = true) (n2 : noScr x2 = true) (n3 : noScr x3 = true) (n4 : noScr x4 = true) (n5 : noScr x5 = true) (h : chk5 x1 x2 x3 x4 x5 = some x) : Run K E (t_waiting K C T E) ⟨[.dat x1, .dat x2, .dat x3, .dat x4, .dat x5, .dat x6, .unk], g⟩ (.ex (C "BadArgument") "name" (.str x) ⟨[.dat x1, .dat x2, .dat x3, .dat x4, .dat x5, .dat x6, .unk], g⟩) := by
  refine run_end (run_dropX (er_call (ea_cons (ev_var rfl) (ea_cons (ev_var rfl) (ea_cons (ev_var rfl) (ea_cons (ev_var rfl) (ea_cons (ev_var rfl) ea_nil))))) (.no n1 n2 n3 n4 n5 h))) rfl
theorem rd_waiting_no6 {x1 x2 x3 x4 x5 x6 : D} {g} (n1 : noScr x1 = true) (n2 : noScr x2 = true) (n3 : noScr x3 = true) (n4 : noScr x4 = true) (n5 : noScr x5 = true) (n6 : noScr x6 = true) (h : chk5 x1 x2 x3 x4 x5 = none) (h6 : isIn x6 0 120 = false) : Run K E (t_waiting K C T E) ⟨[.dat x1, .dat x2, .dat x3, .dat x4, .dat x5, .dat x6, .unk], g⟩ (.ex (C "BadArgument") "name" (.str "ticks") ⟨[.dat x1, .dat x2, .dat x3, .dat x4, .dat x5, .dat x6, .unk], g⟩) := by
  refine run_seq (run_drop (ev_call (ea_cons (ev_var rfl) (ea_cons (ev_var rfl) (ea_cons (ev_var rfl) (ea_cons (ev_var rfl) (ea_cons (ev_var rfl) ea_nil))))) (.ok n1 n2 n3 n4 n5 h))) ?_
  walk_at "rs"
theorem rd_is_waiting_no {x1 x2 x3 x4 x5 x6 x7 : D} {x : Str} {g} (n1 : noScr x1 = true) (n2 : noScr x2 = true) (n3 : noScr x3 = true) (n4 : noScr x4 = true) (n5 : noScr x5 = true) (h : chk5 x1 x2 x3 x4 x5 = some x) : Run K E (t_is_waiting K C T E) ⟨[.dat x1, .dat x2, .dat x3, .dat x4, .dat x5, .dat x6, .dat x7], g⟩ (.ex (C "BadArgument") "name" (.str x) ⟨[.dat x1, .dat x2, .dat x3, .dat x4, .dat x5, .dat x6, .dat x7], g⟩) := by
  refine run_end (run_dropX (er_call (ea_cons (ev_var rfl) (ea_cons (ev_var rfl) (ea_cons (ev_var rfl) (ea_cons (ev_var rfl) (ea_cons (ev_var rfl) ea_nil))))) (.no n1 n2 n3 n4 n5 h))) rfl
theorem rd_is_waiting_no6 {x1 x2 x3 x4 x5 x6 x7 : D} {g} (n1 : noScr x1 = true) (n2 : noScr x2 = true) (n3 : noScr x3 = true) (n4 : noScr x4 = true) (n5 : noScr x5 = true) (n6 : noScr x6 = true) (h : chk5 x1 x2 x3 x4 x5 = none) (h6 : isIn x6 0 120 = false) : Run K E (t_is_waiting K C T E) ⟨[.dat x1, .dat x2, .dat x3, .dat x4, .dat x5, .dat x6, .dat x7], g⟩ (.ex (C "BadArgument") "name" (.str "ticks") ⟨[.dat x1, .dat x2, .dat x3, .dat x4, .dat x5, .dat x6, .dat x7], g⟩) := by
  refine run_seq (run_drop (ev_call (ea_cons (ev_var rfl) (ea_cons (ev_var rfl) (ea_cons (ev_var rfl) (ea_cons (ev_var rfl) (ea_cons (ev_var rfl) ea_nil))))) (.ok n1 n2 n3 n4 n5 h))) ?_
  walk_at "rs"
theorem rd_is_waiting_oth {c b : Nat} {w e gp t : Int} {v : D} {g} (hc : 1 ≤ c ∧ c ≤ 4) (hw : 1 ≤ w ∧ w ≤ 12) (he : 1 ≤ e ∧ e ≤ 12) (hb : 1 ≤ b ∧ b ≤ 6) (hg : 1 ≤ gp ∧ gp ≤ 12) (ht : 0 ≤ t ∧ t ≤ 120) (n : noScr v = true) (n2 : deep1 v = true) (hv : isiD "tuple" v = false) : Run K E (t_is_waiting K C T E) ⟨[.dat (.int c), .dat (.int w), .dat (.int e), .dat (.int b), .dat (.int gp), .dat (.int t), .dat v], g⟩ (.rt (.bool false) ⟨[.dat (.int c), .dat (.int w), .dat (.int e), .dat (.int b), .dat (.int gp), .dat (.int t), .dat v], g⟩) := by
  have a1 : isIn (.int t) 0 120 = true := isIn_i ht.1 ht.2
  have a2 : areTimes v = false := by cases v <;> first | rfl | cases hv
  refine run_seq (run_drop (ev_call (ea_cons (ev_var rfl) (ea_cons (ev_var rfl) (ea_cons (ev_var rfl) (ea_cons (ev_var rfl) (ea_cons (ev_var rfl) ea_nil))))) (.ok rfl rfl rfl rfl rfl (chk5_i (by omega) hw he (by omega) hg)))) ?_
  walk_at "s"
  refine run_end (run_yes (et_orT (EvT.to (et_not (et_B (ev_call (ea_cons (ev_var rfl) ea_nil) (.mk n n2)))) (by rw [a2]; rfl))) (run_ret ev_bl)) rfl
theorem rd_is_waiting_tup {c b : Nat} {w e gp t : Int} {ns : List Int} {g} (hc : 1 ≤ c ∧ c ≤ 4) (hw : 1 ≤ w ∧ w ≤ 12) (he : 1 ≤ e ∧ e ≤ 12) (hb : 1 ≤ b ∧ b ≤ 6) (hg : 1 ≤ gp ∧ gp ≤ 12) (ht : 0 ≤ t ∧ t ≤ 120) (hl : ns.length ≤ 2000) : Run K E (t_is_waiting K C T E) ⟨[.dat (.int c), .dat (.int w), .dat (.int e), .dat (.int b), .dat (.int gp), .dat (.int t), .dat (.tuple (ns.map PyData.int))], g⟩ (.rt (.bool (isWI c w e b gp t ns)) ⟨[.dat (.int c), .dat (.int w), .dat (.int e), .dat (.int b), .dat (.int gp), .dat (.int t), .dat (.tuple (ns.map PyData.int))], g⟩) := by
  have a1 : isIn (.int t) 0 120 = true := isIn_i ht.1 ht.2
  refine run_seq (run_drop (ev_call (ea_cons (ev_var rfl) (ea_cons (ev_var rfl) (ea_cons (ev_var rfl) (ea_cons (ev_var rfl) (ea_cons (ev_var rfl) ea_nil))))) (.ok rfl rfl rfl rfl rfl (chk5_i (by omega) hw he (by omega) hg)))) ?_
  walk_at "s"
  have tst : EvT K (tOr (tNot (tB (tCall (spF K (R_are_times K C T)) [] E (tCons (tVar 6) tNil)))) (tOr (tNot (tTest (tChain (rD2 K ordOk leD) (rD2 K ordOk leD) (tC (.int 1)) (tCB (rDn K lenOk lenD) (tCons (tVar 6) tNil)) (tC (.int 600))))) (tNot (tB (tCall (spF K (R_are_kept K C T)) [] E (tCons (tVar 3) (tCons (tVar 4) (tCons (tVar 6) tNil)))))))) ⟨[.dat (.int c), .dat (.int w), .dat (.int e), .dat (.int b), .dat (.int gp), .dat (.int t), .dat (.tuple (ns.map PyData.int))], g⟩ (!(areTimes (.tuple (ns.map PyData.int)) && ((decide (1 ≤ (ns.length : Int)) && decide ((ns.length : Int) ≤ 600)) && kept2 b gp ns))) ⟨[.dat (.int c), .dat (.int w), .dat (.int e), .dat (.int b), .dat (.int gp), .dat (.int t), .dat (.tuple (ns.map PyData.int))], g⟩ := by
    refine EvT.to (et_or (et_not (et_B (ev_call (ea_cons (ev_var rfl) ea_nil) (.mk rfl (ints_noScr ns))))) fun _ => et_or (et_not (et_test (ev_chainI ev_int (ev_lenTI (ev_var rfl)) ev_int))) fun _ => et_not (et_B (ev_call (ea_cons (ev_var rfl) (ea_cons (ev_var rfl) (ea_cons (ev_var rfl) ea_nil))) (.mk (by omega) (by omega) (by omega) (by omega) (by omega))))) ?_
    rw [← Bool.not_and, ← Bool.not_and]
  unfold isWI
  cases hk : (areTimes (.tuple (ns.map PyData.int)) && ((decide (1 ≤ (ns.length : Int)) && decide ((ns.length : Int) ≤ 600)) && kept2 b gp ns)) with
  | false =>
    rw [hk] at tst
    have e1 : (areTimes (.tuple (ns.map PyData.int)) && ((decide (1 ≤ (ns.length : Int)) && decide ((ns.length : Int) ≤ 600)) && (kept2 b gp ns && decide (t ≤ (waits c w e ns).getD (ns.length - 1) 0)))) = false := by
      rw [← Bool.and_assoc (decide (1 ≤ (ns.length : Int)) && _), ← Bool.and_assoc, hk]; rfl
    rw [e1]
    exact run_end (run_yes tst (run_ret ev_bl)) rfl
  | true =>
    rw [hk] at tst
    have e1 : (areTimes (.tuple (ns.map PyData.int)) && ((decide (1 ≤ (ns.length : Int)) && decide ((ns.length : Int) ≤ 600)) && (kept2 b gp ns && decide (t ≤ (waits c w e ns).getD (ns.length - 1) 0)))) = decide (t ≤ (waits c w e ns).getD (ns.length - 1) 0) := by
      rw [← Bool.and_assoc (decide (1 ≤ (ns.length : Int)) && _), ← Bool.and_assoc, hk]; rfl
    rw [e1]
    have l1 : 1 ≤ ns.length := by
      simp only [Bool.and_eq_true, decide_eq_true_eq] at hk
      omega
    refine run_seq (run_no tst run_next) ?_
    refine run_ret (ev_geI (ev_ixL (ev_call (ea_cons (ev_var rfl) (ea_cons (ev_var rfl) (ea_cons (ev_var rfl) (ea_cons (ev_var rfl) ea_nil)))) (.mk (by omega) (by omega) (by omega) (by omega) rfl (by omega))) (ev_negI ev_int) ?_) (ev_var rfl))
    have := at_neg (ns := waits c w e ns) (k := 1) (by omega) (by rw [waits_len]; omega)
    rw [waits_len] at this
    exact this
theorem eqv_nil {ds : List D} : PyData.eqv (.list ds) (.list []) = decide (ds.length = 0) := by
  cases ds with
  | nil => simp [PyData.eqv, PyData.eqvAll]
  | cons d ds => simp [PyData.eqv, PyData.eqvAll]
theorem nil_ok : SeqAt.shaped (.list []) = true := okL []
theorem rd__law_is_due_oth {p : PL} {t : Int} {v : D} {g} (n : noScr v = true) (hv : isiD "tuple" v = false) : Run K E (t__law_is_due K C T E) ⟨[.dat (plD p), .dat (.int t), .dat v, .unk, .unk, .unk, .unk], g⟩ (.rt (.bool false) ⟨[.dat (plD p), .dat (.int t), .dat v, .unk, .unk, .unk, .unk], g⟩) := by
  refine run_end (run_yes (et_orT (EvT.to (et_not (et_B (ev_isi (b := false) (ev_var rfl) kit_tuple n ?_))) rfl)) (run_ret ev_bl)) rfl
  cases v <;> first | rfl | cases hv
theorem ints_at {ns : List Int} {i : Int} {k : Nat} (h : i = k) (h1 : k < ns.length) : atI (ns.map PyData.int) i = some (.int (ns.getD k 0)) := by
  subst h
  have := int_at (ns := ns) (i := (k : Nat)) (by omega) (by omega)
  rw [Int.toNat_natCast] at this
  exact this
theorem rd__law_is_due_tup {p : PL} {t : Int} {ns : List Int} {g} (hp : POk p) (hl : ns.length ≤ 2000) : Run K E (t__law_is_due K C T E) ⟨[.dat (plD p), .dat (.int t), .dat (.tuple (ns.map PyData.int)), .unk, .unk, .unk, .unk], g⟩ (.rt (.bool (isWI p.crews.toNat p.work p.every p.burst p.gap t ns)) ⟨[.dat (plD p), .dat (.int t), .dat (.tuple (ns.map PyData.int)), .unk, .unk, .unk, .unk], g⟩) := by
  have hc := hp.crews; have hw := hp.work; have he := hp.every; have hg := hp.gap; have hb := hp.burst
  obtain ⟨c, hcc⟩ : ∃ c : Nat, p.crews = c := ⟨p.crews.toNat, by omega⟩
  have ec : p.crews.toNat = c := by omega
  rw [ec, ← due_eq (by omega) (by omega) (by omega) hb.1 (by omega)]
  unfold dueL
  have t1 : EvT K (tOr (tNot (tB (tCB (rIsi K) (tCons (tVar 2) (tCons (tC (.ty "tuple")) tNil))))) (tNot (tTest (tChain (rD2 K ordOk leD) (rD2 K ordOk leD) (tC (.int 1)) (tCB (rDn K lenOk lenD) (tCons (tVar 2) tNil)) (tC (.int 600)))))) ⟨[.dat (plD p), .dat (.int t), .dat (.tuple (ns.map PyData.int)), .unk, .unk, .unk, .unk], g⟩ (!(decide (1 ≤ (ns.length : Int)) && decide ((ns.length : Int) ≤ 600))) ⟨[.dat (plD p), .dat (.int t), .dat (.tuple (ns.map PyData.int)), .unk, .unk, .unk, .unk], g⟩ :=
    et_or (a := false) (EvT.to (et_not (et_B (ev_isi (b := true) (ev_var rfl) kit_tuple rfl rfl))) rfl) fun _ => et_not (et_test (ev_chainI ev_int (ev_lenTI (ev_var rfl)) ev_int))
  cases h1 : (decide (1 ≤ (ns.length : Int)) && decide ((ns.length : Int) ≤ 600)) with
  | false =>
    rw [h1] at t1
    exact run_end (run_yes t1 (run_ret ev_bl)) rfl
  | true =>
    rw [h1] at t1
    have l1 : 1 ≤ ns.length ∧ ns.length ≤ 600 := by
      simp only [Bool.and_eq_true, decide_eq_true_eq] at h1
      omega
    refine run_seq (run_no t1 run_next) ?_
    simp only [Bool.true_and]
    have t2 : EvT K (tTest (tOp (rD2 K eqOk neD) (tLc (iSeq K (tVar 2)) (gName 5) (tOr (tNot (tB (tCB (rIsi K) (tCons (tVar 5) (tCons (tC (.ty "int")) tNil))))) (tOr (tB (tCB (rIsi K) (tCons (tVar 5) (tCons (tC (.ty "bool")) tNil)))) (tNot (tTest (tChain (rD2 K ordOk leD) (rD2 K ordOk leD) (tC (.int 0)) (tVar 5) (tC (.int 10000))))))) (tC (.int 1)) [5]) (tLst tNil))) ⟨[.dat (plD p), .dat (.int t), .dat (.tuple (ns.map PyData.int)), .unk, .unk, .unk, .unk], g⟩ (!ns.all tickI) ⟨[.dat (plD p), .dat (.int t), .dat (.tuple (ns.map PyData.int)), .unk, .unk, .unk, .unk], g⟩ := by
      have key := ev_lc (K := K) (s := ⟨[.dat (plD p), .dat (.int t), .dat (.tuple (ns.map PyData.int)), .unk, .unk, .unk, .unk], g⟩) (wi := iSeq K (tVar 2)) (g := gName 5) (vs := [5]) (te := tC (.int 1)) (tt := (tOr (tNot (tB (tCB (rIsi K) (tCons (tVar 5) (tCons (tC (.ty "int")) tNil))))) (tOr (tB (tCB (rIsi K) (tCons (tVar 5) (tCons (tC (.ty "bool")) tNil)))) (tNot (tTest (tChain (rD2 K ordOk leD) (rD2 K ordOk leD) (tC (.int 0)) (tVar 5) (tC (.int 10000)))))))) (fun d => !tickI (ofInt d)) (fun _ => .int 1) (it_seq (d := .tuple (ns.map PyData.int)) (ev_var rfl) rfl) (by rw [List.length_map]; exact le_size (by omega)) (by walk_at "nr") fun d hd => by
        obtain ⟨x, _, rfl⟩ := List.mem_map.mp hd
        refine ⟨_, by walk_at "tv", ?_, ?_, fun _ => ?_⟩
        · walk_at "w"
          exact Fo.le (by walk_at "fo")
        · walk_at "w"
          refine EvT.to (et_or (a := false) (EvT.to (et_not (et_B (ev_isi (b := true) (ev_var rfl) kit_int rfl rfl))) rfl) fun _ => et_or (a := false) (et_B (ev_isi (b := false) (ev_var rfl) kit_bool rfl rfl)) fun _ => et_not (et_test (ev_chainI ev_int (ev_var rfl) ev_int))) rfl
        · exact ev_int
      have e1 : ((ns.map PyData.int).filter fun d => !tickI (ofInt d)).map (fun _ => PyData.int 1) = (List.replicate (ns.countP fun n => !tickI n) (1 : Int)).map PyData.int := by
        rw [List.filter_map, List.map_map, List.map_replicate, List.countP_eq_length_filter]
        have : ∀ l : List Int, l.map ((fun _ => PyData.int 1) ∘ PyData.int) = List.replicate l.length (PyData.int 1) := by
          intro l
          induction l with
          | nil => rfl
          | cons a l ih => rw [List.map_cons, ih, List.length_cons, List.replicate_succ]; rfl
        rw [this]
        rfl
      rw [e1] at key
      refine EvT.to (et_test (ev_neT key (ev_lst ea_nil (Nat.zero_le _)) ⟨okL _, nil_ok⟩)) ?_
      rw [eqv_nil, List.length_map, List.length_replicate]
      cases ha : ns.all tickI with
      | true =>
        rw [List.all_eq_true] at ha
        rw [decide_eq_true]
        exact List.countP_eq_zero.mpr fun x hx => by rw [ha x hx]; simp
      | false =>
        rw [List.all_eq_false] at ha
        rw [decide_eq_false]
        intro z
        obtain ⟨x, hx, hn⟩ := ha
        have := List.countP_eq_zero.mp z x hx
        simp at this hn
        rw [this] at hn
        cases hn
    cases h2 : ns.all tickI with
    | false =>
      rw [h2] at t2
      exact run_end (run_yes t2 (run_ret ev_bl)) rfl
    | true =>
      rw [h2] at t2
      refine run_seq (run_no t2 run_next) ?_
      simp only [Bool.true_and]
      have turn : ∀ a : Nat, a < ns.length → Run K E (tSeq (tIfS (tAnd (tTest (tOp (rD2 K ordOk gtD) (tVar 3) (tC (.int 0)))) (tTest (tOp (rD2 K ltXOk ltXD) (tOp (rD2 K ixOk ixD) (tVar 2) (tVar 3)) (tOp (rD2 K ixOk ixD) (tVar 2) (tOp (rD2 K subOk subD) (tVar 3) (tC (.int 1))))))) (tRet (tC (.bl false))) tNext)
    (tIfS (tTest (tOp (rD2 K eqOk neD) (tLc (iRng2 (tCons (tVar 3) (tCons (tCB (rDn K lenOk lenD) (tCons (tVar 2) tNil)) tNil))) (gName 6) (tTest (tOp (rD2 K ltXOk ltXD) (tOp (rD2 K subOk subD) (tOp (rD2 K ixOk ixD) (tVar 2) (tVar 6)) (tOp (rD2 K ixOk ixD) (tVar 2) (tVar 3))) (tOp (rD2 K mulOkV mulD) (tOp (rD2 K subOk subD) (tOp (rD2 K addOk addD) (tOp (rD2 K subOk subD) (tVar 6) (tVar 3)) (tC (.int 1))) (tDGet (tVar 0) (tC (.str "burst")))) (tDGet (tVar 0) (tC (.str "gap")))))) (tVar 6) [6]) (tLst tNil))) (tRet (tC (.bl false))) tNext)) ⟨[.dat (plD p), .dat (.int t), .dat (.tuple (ns.map PyData.int)), .dat (.int (a : Nat)), .unk, .unk, .unk], g⟩ (if badL p.burst p.gap ns a = true then .rt (.bool false) ⟨[.dat (plD p), .dat (.int t), .dat (.tuple (ns.map PyData.int)), .unk, .unk, .unk, .unk], g⟩ else .nx ⟨[.dat (plD p), .dat (.int t), .dat (.tuple (ns.map PyData.int)), .unk, .unk, .unk, .unk], g⟩) := by
        intro a ha
        have c1 : EvT K (tAnd (tTest (tOp (rD2 K ordOk gtD) (tVar 3) (tC (.int 0)))) (tTest (tOp (rD2 K ltXOk ltXD) (tOp (rD2 K ixOk ixD) (tVar 2) (tVar 3)) (tOp (rD2 K ixOk ixD) (tVar 2) (tOp (rD2 K subOk subD) (tVar 3) (tC (.int 1))))))) ⟨[.dat (plD p), .dat (.int t), .dat (.tuple (ns.map PyData.int)), .dat (.int (a : Nat)), .unk, .unk, .unk], g⟩ (decide (0 < (a : Int)) && decide (ns.getD a 0 < ns.getD (a - 1) 0)) ⟨[.dat (plD p), .dat (.int t), .dat (.tuple (ns.map PyData.int)), .dat (.int (a : Nat)), .unk, .unk, .unk], g⟩ :=
          et_and (et_test (ev_gtI (ev_var rfl) ev_int)) fun h => by
            have h := of_decide_eq_true h
            exact et_test (ev_ltI (ev_ixT (ev_var rfl) (ev_var rfl) (ints_at rfl ha)) (ev_ixT (ev_var rfl) (ev_subI (ev_var rfl) ev_int) (ints_at (k := a - 1) (by omega) (by omega))))
        unfold badL
        cases hb1 : (decide (0 < (a : Int)) && decide (ns.getD a 0 < ns.getD (a - 1) 0)) with
        | true =>
          rw [hb1] at c1
          rw [if_pos (by rfl)]
          refine run_end (run_yes c1 (run_retle ev_bl ?_)) rfl
          exact Fo.le (by walk_at "fo")
        | false =>
          rw [hb1] at c1
          refine run_seq (run_no c1 run_next) ?_
          have key := ev_lc (K := K) (s := ⟨[.dat (plD p), .dat (.int t), .dat (.tuple (ns.map PyData.int)), .dat (.int (a : Nat)), .unk, .unk, .unk], g⟩) (wi := iRng2 (tCons (tVar 3) (tCons (tCB (rDn K lenOk lenD) (tCons (tVar 2) tNil)) tNil))) (g := gName 6) (vs := [6]) (te := tVar 6) (tt := (tTest (tOp (rD2 K ltXOk ltXD) (tOp (rD2 K subOk subD) (tOp (rD2 K ixOk ixD) (tVar 2) (tVar 6)) (tOp (rD2 K ixOk ixD) (tVar 2) (tVar 3))) (tOp (rD2 K mulOkV mulD) (tOp (rD2 K subOk subD) (tOp (rD2 K addOk addD) (tOp (rD2 K subOk subD) (tVar 6) (tVar 3)) (tC (.int 1))) (tDGet (tVar 0) (tC (.str "burst")))) (tDGet (tVar 0) (tC (.str "gap"))))))) (fun d => decide (ns.getD (ofInt d).toNat 0 - ns.getD a 0 < (ofInt d - a + 1 - p.burst) * p.gap)) (fun d => d) (it_r2 (m := (a : Nat)) (n := (ns.length : Nat)) (ev_var rfl) (ev_lenTI (ev_var rfl)) (by omega)) (by rw [upTo_len]; exact le_size (by omega)) (by walk_at "nr") fun d hd => by
            obtain ⟨x, hx, rfl⟩ := upTo_mem.mp hd
            refine ⟨_, by walk_at "tv", ?_, ?_, fun _ => ?_⟩
            · walk_at "w"
              exact Fo.le (by walk_at "fo")
            · walk_at "w"
              refine et_test (ev_ltI (ev_subI (ev_ixT (ev_var rfl) (ev_var rfl) (int_at (by omega) (by omega))) (ev_ixT (ev_var rfl) (ev_var rfl) (ints_at rfl ha))) (ev_mulVI (ev_subI (ev_addI (ev_subI (ev_var rfl) (ev_var rfl)) ev_int) (ev_dgetS (ev_var rfl) pl_burst)) (ev_dgetS (ev_var rfl) pl_gap) (Or.inr ⟨by omega, by omega⟩)))
            · walk_at "w"
              exact ev_var rfl
          rw [List.map_id'] at key
          have shp : SeqAt.shaped (.list (rowL p.burst p.gap ns a)) = true := by
            refine (sh_lst (n := 0) (shs_of fun d hd => ?_)).ok (by decide)
            obtain ⟨x, _, rfl⟩ := upTo_mem.mp (List.mem_filter.mp hd).1
            exact sh_int
          have c2 := et_test (K := K) (ev_neT key (ev_lst ea_nil (Nat.zero_le _)) ⟨shp, nil_ok⟩)
          rw [eqv_nil] at c2
          have e2 : (!decide (((DL.upTo ((a : Nat) : Int) ((ns.length : Int) - (a : Nat)).toNat).filter fun d => decide (ns.getD (ofInt d).toNat 0 - ns.getD a 0 < (ofInt d - a + 1 - p.burst) * p.gap)).length = 0)) = decide (rowL p.burst p.gap ns a ≠ []) := by
            show (!decide ((rowL p.burst p.gap ns a).length = 0)) = _
            rw [← decide_not]
            congr 1
            rw [List.length_eq_zero_iff]
          rw [e2] at c2
          simp only [Bool.false_or]
          cases hb2 : decide (rowL p.burst p.gap ns a ≠ []) with
          | true =>
            rw [hb2] at c2
            rw [if_pos rfl]
            refine run_yes c2 (run_retle ev_bl ?_)
            exact Fo.le (by walk_at "fo")
          | false =>
            rw [hb2] at c2
            rw [if_neg (by simp)]
            refine run_le (run_no c2 run_next) ?_
            exact Fo.le (by walk_at "fo")
      have hit : IterD K (iRng1 (tCons (tCB (rDn K lenOk lenD) (tCons (tVar 2) tNil)) tNil)) ⟨[.dat (plD p), .dat (.int t), .dat (.tuple (ns.map PyData.int)), .unk, .unk, .unk, .unk], g⟩ (DL.upTo 0 ns.length) ⟨[.dat (plD p), .dat (.int t), .dat (.tuple (ns.map PyData.int)), .unk, .unk, .unk, .unk], g⟩ := it_r1 (n := (ns.length : Nat)) (ev_lenTI (ev_var rfl)) (by omega)
      cases h3 : (List.range ns.length).all (fun a => !badL p.burst p.gap ns a) with
      | false =>
        rw [List.all_eq_false] at h3
        obtain ⟨a, ha, hb3⟩ := h3
        have ha := List.mem_range.mp ha
        simp only [Bool.not_eq_true, Bool.not_eq_false'] at hb3
        simp only [Bool.false_and]
        refine run_end ?_ rfl
        refine run_forAny (s0 := ⟨[.dat (plD p), .dat (.int t), .dat (.tuple (ns.map PyData.int)), .unk, .unk, .unk, .unk], g⟩) (fun d => badL p.burst p.gap ns (ofInt d).toNat) hit (SLe.refl _) ⟨.int (0 + (a : Int)), upTo_mem.mpr ⟨a, ha, rfl⟩, ?_⟩ (fun d hd hq => ?_) fun d hd hq => ?_
        · show badL p.burst p.gap ns (0 + (a : Int)).toNat = true
          rw [show (0 + (a : Int)).toNat = a by omega]
          exact hb3
        · obtain ⟨x, hx, rfl⟩ := upTo_mem.mp hd
          refine ⟨_, tg_name, ?_⟩
          have := turn x hx
          rw [show ofInt (.int (0 + (x : Int))) = (x : Nat) by show 0 + (x : Int) = _; omega, Int.toNat_natCast] at hq
          rw [if_neg (by rw [hq]; simp)] at this
          walk_at "d"
          rw [show (0 : Int) + (x : Int) = (x : Nat) by omega]
          exact this
        · obtain ⟨x, hx, rfl⟩ := upTo_mem.mp hd
          have := turn x hx
          rw [show ofInt (.int (0 + (x : Int))) = (x : Nat) by show 0 + (x : Int) = _; omega, Int.toNat_natCast] at hq
          rw [if_pos hq] at this
          refine ⟨_, .rt (.bool false) ⟨[.dat (plD p), .dat (.int t), .dat (.tuple (ns.map PyData.int)), .unk, .unk, .unk, .unk], g⟩, tg_name, ?_, rfl, rfl⟩
          walk_at "d"
          rw [show (0 : Int) + (x : Int) = (x : Nat) by omega]
          exact this
      | true =>
        rw [List.all_eq_true] at h3
        apply run_seq
        · refine run_forAll (s0 := ⟨[.dat (plD p), .dat (.int t), .dat (.tuple (ns.map PyData.int)), .unk, .unk, .unk, .unk], g⟩) (fun _ => false) hit (SLe.refl _) (fun _ _ => rfl) fun d hd _ => ?_
          obtain ⟨x, hx, rfl⟩ := upTo_mem.mp hd
          have hq := h3 x (List.mem_range.mpr hx)
          rw [Bool.not_eq_true'] at hq
          refine ⟨_, tg_name, ?_⟩
          have := turn x hx
          rw [if_neg (by rw [hq]; simp)] at this
          walk_at "d"
          rw [show (0 : Int) + (x : Int) = (x : Nat) by omega]
          exact this
        simp only [Bool.true_and]
        apply run_seq
        · apply run_asg (d := .list ((lends c p.work (ns.map (rdAt p.every))).map PyData.int))
          apply ev_call
          · apply ea_cons
            · exact Ev.to (ev_dgetS (ev_var rfl) pl_crews) (by rw [hcc])
            apply ea_cons
            · exact ev_dgetS (ev_var rfl) pl_work
            apply ea_cons
            · apply ev_lcI (ts := ns) (f := fun x => .int (rdAt p.every x))
              · exact ev_var rfl
              · rfl
              · omega
              · walk_at "nr"
              · walk_at "hw"
              · intro x _
                walk_at "w"
                exact ev_call (ea_cons (ev_dgetS (ev_var rfl) pl_every) (ea_cons (ev_var rfl) ea_nil)) (.mk (by omega))
            exact ea_nil
          · exact .mk (by omega) (by omega) (by show some _ = some _; rw [List.map_map]; rfl) (by rw [List.length_map]; omega)
        walk_at "d"
        have ll : (lends c p.work (ns.map (rdAt p.every))).length = ns.length := by rw [lends_len (by omega), List.length_map]
        have a1 := at_neg (ns := lends c p.work (ns.map (rdAt p.every))) (k := 1) (by omega) (by omega)
        have a2 := at_neg (ns := ns) (k := 1) (by omega) (by omega)
        rw [ll] at a1
        refine run_retle (ev_geI (ev_subI (ev_ixL (ev_var rfl) (ev_negI ev_int) a1) (ev_ixT (ev_var rfl) (ev_negI ev_int) a2)) (ev_var rfl)) ?_
        exact Fo.le (by walk_at "fo")
end K07

namespace K07
open PySem PySem.Spec PyProof.Rows L2 DL CM M06
variable {K : PySem.W.Frag} {C : Str → Addr} {T : List (Addr × Str)} {E : XK}
def nearL (ns : List Int) (a by_ : Int) : List D :=
  [.tuple ((cutL ns none (some a) ++ (cutL ns (some a) none).map fun x => max 0 (x + by_)).map PyData.int),
   .tuple ((cutL ns none (some a) ++ (cutL ns (some a) none).map fun x => max 0 (x + by_)).map PyData.int),
   .tuple ((cutL ns none (some a) ++ cutL ns (some (a + 1)) none).map PyData.int),
   .tuple ((cutL ns (some a) none).map PyData.int),
   .tuple (((cutL ns none (some a) ++ cutL ns (some a) (some (a + 1))) ++ cutL ns (some a) none).map PyData.int),
   .tuple (ns.reverse.map PyData.int), .list (ns.map PyData.int), .none, .tuple []]
def byOf (d : Dice) : Int := ofInt (pick d [.int 1, .int (-1), .int 2, .int 5])
theorem byOf_is {d : Dice} : pick d [.int 1, .int (-1), .int 2, .int 5] = .int (byOf d) := by
  have h := pick_mem (d := d) (xs := [.int 1, .int (-1), .int 2, .int 5]) (List.cons_ne_nil _ _)
  unfold byOf
  generalize pick d [.int 1, .int (-1), .int 2, .int 5] = y at h ⊢
  simp only [List.mem_cons, List.not_mem_nil, or_false] at h
  rcases h with h | h | h | h <;> subst h <;> rfl
def nearDc (d : Dice) (ns : List Int) : Dice := CM.rd (CM.rd d ((ns.length : Int) + 1)) (4 : Nat)
def nearD (d : Dice) (ns : List Int) : D := pick (nearDc d ns) (nearL ns (rv d ((ns.length : Int) + 1)) (byOf (CM.rd d ((ns.length : Int) + 1))))
/-- ticks, or no tuple -/
def NearOk (v : D) : Prop := (∃ ms : List Int, v = .tuple (ms.map PyData.int) ∧ ms.length ≤ 2000) ∨ (isiD "tuple" v = false ∧ noScr v = true ∧ deep1 v = true)
theorem near_ok {d : Dice} {ns : List Int} (hl : ns.length ≤ 100) : NearOk (nearD d ns) := by
  have c1 := fun lo hi => cut_len ns lo hi
  have h := pick_mem (d := nearDc d ns) (xs := nearL ns (rv d ((ns.length : Int) + 1)) (byOf (CM.rd d ((ns.length : Int) + 1)))) (List.cons_ne_nil _ _)
  unfold nearD
  generalize rv d ((ns.length : Int) + 1) = a at h ⊢
  generalize byOf (CM.rd d ((ns.length : Int) + 1)) = by_ at h ⊢
  generalize pick (nearDc d ns) (nearL ns a by_) = y at h ⊢
  have h1 := c1 none (some a)
  have h2 := c1 (some a) none
  have h3 := c1 (some (a + 1)) none
  have h4 := c1 (some a) (some (a + 1))
  unfold nearL at h
  simp only [List.mem_cons, List.not_mem_nil, or_false] at h
  rcases h with h | h | h | h | h | h | h | h | h <;> subst h
  · exact .inl ⟨_, rfl, by rw [List.length_append, List.length_map]; omega⟩
  · exact .inl ⟨_, rfl, by rw [List.length_append, List.length_map]; omega⟩
  · exact .inl ⟨_, rfl, by rw [List.length_append]; omega⟩
  · exact .inl ⟨_, rfl, by omega⟩
  · exact .inl ⟨_, rfl, by rw [List.length_append, List.length_append]; omega⟩
  · exact .inl ⟨_, rfl, by rw [List.length_reverse]; omega⟩
  · exact .inr ⟨rfl, rfl, ints_noScr ns⟩
  · exact .inr ⟨rfl, rfl, rfl⟩
  · exact .inl ⟨[], rfl, by simp⟩
inductive R__law_near (K : PySem.W.Frag) (C : Str → Addr) (T : List (Addr × Str)) : FR
  | mk {v d n ns g} (hd : DOk n d) (hn : n < 100000) (hl : ns.length ≤ 100) : R__law_near K C T ⟨[.res (lstR K (some v) (dl d)), .dat (.tuple (ns.map PyData.int))], g⟩ (.rt (nearD d ns) ⟨[.res (lstR K (some v) (dl (CM.rd (nearDc d ns) (9 : Nat)))), .dat (.tuple (ns.map PyData.int))], g⟩)
def t__law_near (K : PySem.W.Frag) (C : Str → Addr) (T : List (Addr × Str)) (E : XK) : TS :=
  (tSeq (tAsg (tCall (spF K (R__law_roll K C T)) [] E (tCons (tVar 0) (tCons (tOp (rD2 K addOk addD) (tCB (rDn K lenOk lenD) (tCons (tVar 1) tNil)) (tC (.int 1))) tNil))) (gName 2))
    (tSeq (tAsg (tCall (spF K (R__law_pick K C T)) [] E (tCons (tVar 0) (tCons (tLst (tCons (tC (.int 1)) (tCons (tUn (rD1 K negOk negD) (tC (.int 1))) (tCons (tC (.int 2)) (tCons (tC (.int 5)) tNil))))) tNil))) (gName 3))
    (tSeq (tAsg (tOp (rD2 K addOk addD) (tSl (rSlU K) (tVar 1) tNoPart (tPart (tVar 2))) (tCB (rDn K seqOk tupD) (tCons (tLc (iSeq K (tSl (rSlU K) (tVar 1) (tPart (tVar 2)) tNoPart)) (gName 5) tYes (tCB (rDn K mmOk maxD) (tCons (tC (.int 0)) (tCons (tOp (rD2 K addOk addD) (tVar 5) (tVar 3)) tNil))) [5]) tNil))) (gName 4))
    (tRet (tCall (spF K (R__law_pick K C T)) [] E (tCons (tVar 0) (tCons (tLst (tCons (tVar 4) (tCons (tVar 4) (tCons (tOp (rD2 K addOk addD) (tSl (rSlU K) (tVar 1) tNoPart (tPart (tVar 2))) (tSl (rSlU K) (tVar 1) (tPart (tOp (rD2 K addOk addD) (tVar 2) (tC (.int 1)))) tNoPart)) (tCons (tSl (rSlU K) (tVar 1) (tPart (tVar 2)) tNoPart) (tCons (tOp (rD2 K addOk addD) (tOp (rD2 K addOk addD) (tSl (rSlU K) (tVar 1) tNoPart (tPart (tVar 2))) (tSl (rSlU K) (tVar 1) (tPart (tVar 2)) (tPart (tOp (rD2 K addOk addD) (tVar 2) (tC (.int 1)))))) (tSl (rSlU K) (tVar 1) (tPart (tVar 2)) tNoPart)) (tCons (tRevT K (tVar 1)) (tCons (tCB (rDl K seqOk itemsD) (tCons (tVar 1) tNil)) (tCons (tC .non) (tCons (tTup tNil) tNil)))))))))) tNil)))))))
theorem rd__law_near {v : V} {d : Dice} {n : Int} {ns : List Int} {g} (hd : DOk n d) (hn : n < 100000) (hl : ns.length ≤ 100) :
    Run K E (t__law_near K C T E) ⟨[.res (lstR K (some v) (dl d)), .dat (.tuple (ns.map PyData.int)), .unk, .unk, .unk, .unk], g⟩ (.rt (nearD d ns) ⟨[.res (lstR K (some v) (dl (CM.rd (nearDc d ns) (9 : Nat)))), .dat (.tuple (ns.map PyData.int)), .unk, .unk, .unk, .unk], g⟩) := by
  have hz : 20000 ≤ sizeLine := le_size (by decide)
  have c1 := fun lo hi => cut_len ns lo hi
  apply run_seq
  · apply run_asg
    exact ev_rollD (d0 := d) rfl (ev_addI (ev_lenTI (ev_var rfl)) ev_int) rfl hd (by omega) (by omega) (by omega) rfl
  walk_at "d"
  have hd1 : DOk (n + 1) (CM.rd d ((ns.length : Int) + 1)) := hd.rd
  have sl : ∀ {s : S} {tl th : TO} {lo hi : Option Int}, s.s[1]? = some (.dat (.tuple (ns.map PyData.int))) → EvP K tl s lo s → EvP K th s hi s → Ev K (tSl (rSlU K) (tVar 1) tl th) s (.tuple ((cutL ns lo hi).map PyData.int)) s := fun h1 h2 h3 => Ev.to (ev_slT (ev_var h1) h2 h3) (by rw [cut_map])
  apply run_seq
  · apply run_asg (d := .int (byOf (CM.rd d ((ns.length : Int) + 1))))
    apply ev_pickD (d0 := CM.rd d ((ns.length : Int) + 1)) (d := CM.rd d ((ns.length : Int) + 1)) (xs := [.int 1, .int (-1), .int 2, .int 5]) (hd := hd1) (hx := byOf_is)
    · rfl
    · walk_at "ev"
    · rfl
    · omega
    · exact List.cons_ne_nil _ _
    · show 4 < 1073741824; omega
  walk_at "d"
  have e1 : CM.rd (CM.rd d ((ns.length : Int) + 1)) (([.int 1, .int (-1), .int 2, .int 5] : List D).length : Nat) = nearDc d ns := rfl
  rw [e1]
  have hd2 : DOk (n + 2) (nearDc d ns) := hd1.rd.up (by omega)
  have eD : nearD d ns = pick (nearDc d ns) (nearL ns (rv d ((ns.length : Int) + 1)) (byOf (CM.rd d ((ns.length : Int) + 1)))) := rfl
  rw [eD]
  generalize nearDc d ns = D2 at hd2 ⊢
  generalize rv d ((ns.length : Int) + 1) = a
  generalize byOf (CM.rd d ((ns.length : Int) + 1)) = by_
  apply run_seq
  · apply run_asg (d := .tuple ((cutL ns none (some a) ++ (cutL ns (some a) none).map fun x => max 0 (x + by_)).map PyData.int))
    apply Ev.to
    · apply ev_addT
      · exact sl rfl ep_none (ep_some (ev_var rfl))
      · apply ev_tupL
        apply ev_lcI (ts := cutL ns (some a) none) (f := fun x => .int (max 0 (x + by_)))
        · exact sl rfl (ep_some (ev_var rfl)) ep_none
        · rfl
        · have := c1 (some a) none; omega
        · walk_at "nr"
        · walk_at "hw"
        · intro x _
          walk_at "w"
          exact ev_maxI ev_int (ev_addI (ev_var rfl) (ev_var rfl))
      · have h1 := c1 none (some a)
        have h2 := c1 (some a) none
        rw [List.length_map, List.length_map]
        omega
    · rw [List.map_append, List.map_map]
      rfl
  walk_at "d"
  apply run_retle
  · apply ev_pickD (d0 := D2) (d := D2) (xs := nearL ns a by_) (hd := hd2) (hx := rfl)
    · rfl
    · have h1 := c1 none (some a)
      have h2 := c1 (some a) none
      have h3 := c1 (some (a + 1)) none
      have h4 := c1 (some a) (some (a + 1))
      apply ev_lst
      · apply ea_cons
        · exact ev_var rfl
        apply ea_cons
        · exact ev_var rfl
        apply ea_cons
        · refine Ev.to (ev_addT (sl rfl ep_none (ep_some (ev_var rfl))) (sl rfl (ep_some (ev_addI (ev_var rfl) ev_int)) ep_none) (by rw [List.length_map, List.length_map]; omega)) (by rw [List.map_append])
        apply ea_cons
        · exact sl rfl (ep_some (ev_var rfl)) ep_none
        apply ea_cons
        · refine Ev.to (ev_addT (ev_addT (sl rfl ep_none (ep_some (ev_var rfl))) (sl rfl (ep_some (ev_var rfl)) (ep_some (ev_addI (ev_var rfl) ev_int))) (by rw [List.length_map, List.length_map]; omega)) (sl rfl (ep_some (ev_var rfl)) ep_none) (by rw [List.length_append, List.length_map, List.length_map, List.length_map]; omega)) (by rw [List.map_append, List.map_append])
        apply ea_cons
        · exact Ev.to (ev_revT (ev_var rfl)) (by rw [List.map_reverse])
        apply ea_cons
        · exact ev_lstT (ev_var rfl)
        apply ea_cons
        · exact ev_non
        apply ea_cons
        · exact ev_tup ea_nil (Nat.zero_le _)
        exact ea_nil
      · show 9 ≤ sizeLine
        omega
    · rfl
    · omega
    · exact List.cons_ne_nil _ _
    · show 9 < 1073741824; omega
  · walk_at "d"
    exact Fo.le (by walk_at "fo")
inductive R__law_refuses (K : PySem.W.Frag) (C : Str → Addr) (T : List (Addr × Str)) : FR
  | mk {v d n p} (hd : DOk n d) (hn : n < 1000000) : R__law_refuses K C T ⟨[.res (lstR K (some v) (dl d)), .dat (plD p)], T⟩ (.rt (.bool true) ⟨[.res (lstR K (some v) (dl (CM.rd d (5 : Nat)))), .dat (plD p)], T⟩)
def t__law_refuses (K : PySem.W.Frag) (C : Str → Addr) (T : List (Addr × Str)) (E : XK) : TS :=
  (tSeq (tAsg (tCall (spF K (R__law_pick K C T)) [] E (tCons (tVar 0) (tCons (tLst (tCons (tUn (rD1 K negOk negD) (tC (.int 1))) (tCons (tC (.int 121)) (tCons (tC .non) (tCons (tC (.bl true)) (tCons (tC (.str "1")) tNil)))))) tNil))) (gName 3))
    (tSeq (tAsg (tLst (tCons (LamX.tLam T (BX.TRef K (C "BadArgument") "name" "") (fun E' => (tCall (spF K (R_waiting K C T)) [] E' (tCons (tC (.int 0)) (tCons (tC (.int 0)) (tCons (tC (.int 1)) (tCons (tC (.int 1)) (tCons (tC (.int 1)) (tCons (tVar 3) tNil))))))))) (tCons (LamX.tLam T (BX.TRef K (C "BadArgument") "name" "") (fun E' => (tCall (spF K (R_waiting K C T)) [] E' (tCons (tC (.int 1)) (tCons (tC (.int 13)) (tCons (tC (.int 0)) (tCons (tC (.int 1)) (tCons (tC (.int 1)) (tCons (tVar 3) tNil))))))))) (tCons (LamX.tLam T (BX.TRef K (C "BadArgument") "name" "") (fun E' => (tCall (spF K (R_waiting K C T)) [] E' (tCons (tC (.int 1)) (tCons (tC (.int 1)) (tCons (tC (.int 1)) (tCons (tC (.int 1)) (tCons (tC (.int 1)) (tCons (tVar 3) tNil))))))))) tNil)))) (gName 2))
    (tSeq (tAsg (tOp (rD2 K addOk addD) (tVar 2) (tLst (tCons (LamX.tLam T (BX.TRef K (C "BadArgument") "name" "") (fun E' => (tCall (spF K (R_is_waiting K C T)) [] E' (tCons (tC (.int 1)) (tCons (tC (.int 1)) (tCons (tC (.int 13)) (tCons (tC (.int 0)) (tCons (tC (.int 1)) (tCons (tVar 3) (tCons (tC .non) tNil)))))))))) (tCons (LamX.tLam T (BX.TRef K (C "BadArgument") "name" "") (fun E' => (tCall (spF K (R_is_waiting K C T)) [] E' (tCons (tC (.int 1)) (tCons (tC (.int 1)) (tCons (tC (.int 1)) (tCons (tC (.int 7)) (tCons (tC (.int 0)) (tCons (tVar 3) (tCons (tC .non) tNil)))))))))) tNil)))) (gName 2))
    (tRet (tOp (rD2 K eqOk eqD) (tOp (rD2 K addOk addD) (tVar 2) (tLst (tCons (LamX.tLam T (BX.TRef K (C "BadArgument") "name" "") (fun E' => (tCall (spF K (R_is_waiting K C T)) [] E' (tCons (tC (.int 1)) (tCons (tC (.int 1)) (tCons (tC (.int 1)) (tCons (tC (.int 1)) (tCons (tC (.int 1)) (tCons (tVar 3) (tCons (tTup tNil) tNil)))))))))) tNil))) (tLst (tCons (tC (.str "crews")) (tCons (tC (.str "work")) (tCons (tC (.str "ticks")) (tCons (tC (.str "every")) (tCons (tC (.str "burst")) (tCons (tC (.str "ticks")) tNil))))))))))))
theorem bad_is {d : Dice} : ∃ v, pick d [.int (-1), .int 121, .none, .bool true, .str "1"] = v ∧ noScr v = true ∧ isIn v 0 120 = false := by
  have h := pick_mem (d := d) (xs := [.int (-1), .int 121, .none, .bool true, .str "1"]) (List.cons_ne_nil _ _)
  generalize pick d [.int (-1), .int 121, .none, .bool true, .str "1"] = y at h ⊢
  refine ⟨y, rfl, ?_⟩
  simp only [List.mem_cons, List.not_mem_nil, or_false] at h
  rcases h with h | h | h | h | h <;> subst h <;> exact ⟨rfl, rfl⟩
theorem told_ok : SeqAt.shaped (.list [.str "crews", .str "work", .str "ticks", .str "every", .str "burst", .str "ticks"]) = true := by decide +kernel
theorem rd__law_refuses {v : V} {d : Dice} {n : Int} {p : PL} (hd : DOk n d) (hn : n < 1000000) :
    Run K E (t__law_refuses K C T E) ⟨[.res (lstR K (some v) (dl d)), .dat (plD p), .unk, .unk], T⟩ (.rt (.bool true) ⟨[.res (lstR K (some v) (dl (CM.rd d (5 : Nat)))), .dat (plD p), .unk, .unk], T⟩) := by
  obtain ⟨vb, eb, nb, b1⟩ := bad_is (d := d)
  have k1 : chk5 (.int 0) (.int 0) (.int 1) (.int 1) (.int 1) = some "crews" := rfl
  have k2 : chk5 (.int 1) (.int 13) (.int 0) (.int 1) (.int 1) = some "work" := rfl
  have k3 : chk5 (.int 1) (.int 1) (.int 1) (.int 1) (.int 1) = none := rfl
  have k4 : chk5 (.int 1) (.int 1) (.int 13) (.int 0) (.int 1) = some "every" := rfl
  have k5 : chk5 (.int 1) (.int 1) (.int 1) (.int 7) (.int 0) = some "burst" := rfl
  apply run_seq
  · apply run_asg (d := vb)
    apply ev_pickD (d0 := d) (d := d) (xs := [.int (-1), .int 121, .none, .bool true, .str "1"]) (hd := hd) (hx := eb)
    · rfl
    · walk_at "ev"
    · rfl
    · omega
    · exact List.cons_ne_nil _ _
    · show 5 < 1073741824; omega
  walk_at "d"
  apply run_seq
  · apply run_asg (d := .list [.str "crews", .str "work", .str "ticks"])
    apply ev_lst
    · apply ea_cons
      · apply DL.ev_lamX; intro _; apply DL.er_call
        · walk_at "ea"
        · exact .no rfl rfl rfl rfl rfl k1
      apply ea_cons
      · apply DL.ev_lamX; intro _; apply DL.er_call
        · walk_at "ea"
        · exact .no rfl rfl rfl rfl rfl k2
      apply ea_cons
      · apply DL.ev_lamX; intro _; apply DL.er_call
        · walk_at "ea"
        · exact .no6 rfl rfl rfl rfl rfl nb k3 b1
      exact ea_nil
    · exact le_size (by decide)
  walk_at "d"
  apply run_seq
  · apply run_asg (d := .list ([.str "crews", .str "work", .str "ticks"] ++ [.str "every", .str "burst"]))
    apply ev_addL
    · exact ev_var rfl
    · apply ev_lst
      · apply ea_cons
        · apply DL.ev_lamX; intro _; apply DL.er_call
          · walk_at "ea"
          · exact .no rfl rfl rfl rfl rfl k4
        apply ea_cons
        · apply DL.ev_lamX; intro _; apply DL.er_call
          · walk_at "ea"
          · exact .no rfl rfl rfl rfl rfl k5
        exact ea_nil
      · exact le_size (by decide)
    · exact le_size (by decide)
  walk_at "d"
  apply run_retle
  · apply Ev.to
    · apply ev_eqT
      · apply ev_addL (ys := [.str "ticks"])
        · exact ev_var rfl
        · apply ev_lst
          · apply ea_cons
            · apply DL.ev_lamX; intro _; apply DL.er_call
              · walk_at "ea"
              · exact .no6 rfl rfl rfl rfl rfl nb k3 b1
            exact ea_nil
          · exact le_size (by decide)
        · exact le_size (by decide)
      · walk_at "ev"
      · exact ⟨told_ok, told_ok⟩
    · exact congrArg PyData.bool (eqv_refl _ (flat_of_canLay (SeqAt.canLay_of_shaped told_ok)))
  · walk_at "d"
    exact Fo.le (by walk_at "fo")
theorem boolT_no {ta tb : TE} {s s1 s2 : S} {x : Bool} (ha : Ev K ta s (.bool x) s1) (hb : Ev K tb s1 (.bool x) s2) : EvT K (tTest (tOp (rD2 K eqOk neD) ta tb)) s false s2 := neT_no ha hb ⟨(sh_bl (n := 0)).ok (by decide), (sh_bl (n := 0)).ok (by decide)⟩ (sh_bl (n := 0)).eqv
inductive R__law_right (K : PySem.W.Frag) (C : Str → Addr) (T : List (Addr × Str)) : FR
  | mk {v d} (hd : DOk 0 d) : R__law_right K C T ⟨[.res (lstR K (some v) (dl d))], T⟩ (.rt (.bool true) ⟨[.unk], T⟩)
inductive R_law (K : PySem.W.Frag) (C : Str → Addr) (T : List (Addr × Str)) : FR
  | mk {ns} (h : ns.length ≤ 63) : R_law K C T ⟨[.dat (scrD ns)], T⟩ (.rt (.bool true) ⟨[.dat (scrD ns)], T⟩)
def t__law_right (K : PySem.W.Frag) (C : Str → Addr) (T : List (Addr × Str)) (E : XK) : TS :=
  (tSeq (tAsg (tIf (tTest (tOp (rD2 K eqOk eqD) (tCall (spF K (R__law_roll K C T)) [] E (tCons (tVar 0) (tCons (tC (.int 3)) tNil))) (tC (.int 0)))) (tCall (spF K (R__law_l_wide K C T)) [] E (tCons (tVar 0) tNil)) (tCall (spF K (R__law_l_choices K C T)) [] E (tCons (tVar 0) tNil))) (gName 1))
    (tSeq (tAsg (tTup (tCons (tDGet (tVar 1) (tC (.str "crews"))) (tCons (tDGet (tVar 1) (tC (.str "work"))) (tCons (tDGet (tVar 1) (tC (.str "every"))) (tCons (tDGet (tVar 1) (tC (.str "burst"))) (tCons (tDGet (tVar 1) (tC (.str "gap"))) tNil)))))) (gTup K 5 (gCons (gName 2) (gCons (gName 3) (gCons (gName 4) (gCons (gName 5) (gCons (gName 6) gNil)))))))
    (tSeq (tAsg (tCall (spF K (R__law_l_delay K C T)) [] E (tCons (tVar 1) (tCons (tVar 5) tNil))) (gName 7))
    (tSeq (tAsg (tIf (tTest (tOp (rD2 K isOk isD) (tVar 7) (tC .non))) (tCall (spF K (R__law_roll K C T)) [] E (tCons (tVar 0) (tCons (tC (.int 60)) tNil))) (tCB (rDn K mmOk minD) (tCons (tC (.int 120)) (tCons (tCB (rDn K mmOk maxD) (tCons (tC (.int 0)) (tCons (tOp (rD2 K addOk addD) (tVar 7) (tCall (spF K (R__law_pick K C T)) [] E (tCons (tVar 0) (tCons (tLst (tCons (tUn (rD1 K negOk negD) (tC (.int 2))) (tCons (tUn (rD1 K negOk negD) (tC (.int 1))) (tCons (tC (.int 0)) (tCons (tC (.int 0)) (tCons (tC (.int 1)) tNil)))))) tNil)))) tNil))) tNil)))) (gName 8))
    (tSeq (tAsg (tCallM (spF K (R_waiting K C T)) 0 6 [5, 4, 3, 2, 1, 0] E tNil (tCons (tVar 8) (tCons (tVar 6) (tCons (tVar 5) (tCons (tVar 4) (tCons (tVar 3) (tCons (tVar 2) tNil))))))) (gName 9))
    (tSeq (tIfS (tOr (tTest (tOp (rD2 K eqOk neD) (tOp (rD2 K isOk isD) (tVar 9) (tC .non)) (tAndV (tOp (rD2 K isOk isnD) (tVar 7) (tC .non)) (tOp (rD2 K ltXOk ltXD) (tVar 7) (tVar 8))))) (tAnd (tTest (tOp (rD2 K isOk isnD) (tVar 9) (tC .non))) (tNot (tB (tCall (spF K (R__law_is_due K C T)) [] E (tCons (tVar 1) (tCons (tVar 8) (tCons (tVar 9) tNil)))))))) (tRet (tC (.bl false))) tNext)
    (tSeq (tAsg (tIf (tAnd (tTest (tOp (rD2 K isOk isnD) (tVar 9) (tC .non))) (tTest (tOp (rD2 K ltXOk ltXD) (tCB (rDn K lenOk lenD) (tCons (tVar 9) tNil)) (tC (.int 60))))) (tVar 9) (tTup (tCons (tC (.int 0)) (tCons (tC (.int 0)) (tCons (tC (.int 4)) (tCons (tC (.int 8)) tNil)))))) (gName 10))
    (tSeq (tFor (iRng1 (tCons (tC (.int 6)) tNil)) (gName 11) (tSeq (tAsg (tCall (spF K (R__law_near K C T)) [] E (tCons (tVar 0) (tCons (tVar 10) tNil))) (gName 12))
    (tSeq (tIfS (tTest (tOp (rD2 K eqOk neD) (tCall (spF K (R_is_waiting K C T)) [] E (tCons (tVar 2) (tCons (tVar 3) (tCons (tVar 4) (tCons (tVar 5) (tCons (tVar 6) (tCons (tVar 8) (tCons (tVar 12) tNil)))))))) (tCall (spF K (R__law_is_due K C T)) [] E (tCons (tVar 1) (tCons (tVar 8) (tCons (tVar 12) tNil)))))) (tRet (tC (.bl false))) tNext)
    (tIfS (tTest (tOp (rD2 K eqOk neD) (tCallM (spF K (R_is_waiting K C T)) 6 1 [0, 1, 2, 3, 4, 5, 6] E (tCons (tVar 2) (tCons (tVar 3) (tCons (tVar 4) (tCons (tVar 5) (tCons (tVar 6) (tCons (tC (.int 0)) tNil)))))) (tCons (tVar 12) tNil)) (tCall (spF K (R__law_is_due K C T)) [] E (tCons (tVar 1) (tCons (tC (.int 0)) (tCons (tVar 12) tNil)))))) (tRet (tC (.bl false))) tNext))))
    (tRet (tAndV (tOp (rD2 K eqOk eqD) (tCall (spF K (R_is_waiting K C T)) [] E (tCons (tVar 2) (tCons (tVar 3) (tCons (tVar 4) (tCons (tVar 5) (tCons (tVar 6) (tCons (tVar 8) (tCons (tVar 9) tNil)))))))) (tOp (rD2 K isOk isnD) (tVar 9) (tC .non))) (tCall (spF K (R__law_refuses K C T)) [] E (tCons (tVar 0) (tCons (tVar 1) tNil)))))))))))))
def t_law (K : PySem.W.Frag) (C : Str → Addr) (T : List (Addr × Str)) (E : XK) : TS :=
  (tSeq (tFor (iRng1 (tCons (tCB (rDn K mmOk maxD) (tCons (tC (.int 1)) (tCons (tCB (rDn K mmOk minD) (tCons (tC (.int 4)) (tCons (tCB (rDn K lenOk lenD) (tCons (tVar 0) tNil)) tNil))) tNil))) tNil)) (gName 1) (tIfS (tNot (tB (tCall (spF K (R__law_right K C T)) [] E (tCons (tCall (spF K (R__law_dice K C T)) [] E (tCons (tVar 0) (tCons (tVar 1) tNil))) tNil)))) (tRet (tC (.bl false))) tNext))
    (tRet (tC (.bl true))))
/-- a number of ticks around the longest wait -/
def tickA (d : Dice) (L : Int) : Int := min 120 (max 0 (L + ofInt (pick d [.int (-2), .int (-1), .int 0, .int 0, .int 1])))
theorem pickA {d : Dice} : pick d [.int (-2), .int (-1), .int 0, .int 0, .int 1] = .int (ofInt (pick d [.int (-2), .int (-1), .int 0, .int 0, .int 1])) := by
  have h := pick_mem (d := d) (xs := [.int (-2), .int (-1), .int 0, .int 0, .int 1]) (List.cons_ne_nil _ _)
  generalize pick d [.int (-2), .int (-1), .int 0, .int 0, .int 1] = y at h ⊢
  simp only [List.mem_cons, List.not_mem_nil, or_false] at h
  rcases h with h | h | h | h | h <;> subst h <;> rfl
/-- the dice ahead of turn i of the six -/
def ndc (ns : List Int) (d : Dice) : Nat → Dice
  | 0 => d
  | i + 1 => CM.rd (nearDc (ndc ns d i) ns) (9 : Nat)
theorem ndc_ok {ns : List Int} {d : Dice} {n : Int} (h : DOk n d) : ∀ i : Nat, DOk (n + 3 * i) (ndc ns d i)
  | 0 => h.up (by omega)
  | i + 1 => (ndc_ok h i).rd.rd.rd.up (by omega)
/-- the rest behind the faults told -/
theorem right_rest {v : V} {Dc : Dice} {p : PL} {c b : Nat} {t : Int} {lo fo : D} (hD : DOk 100 Dc) (hp : POk p) (hcc : p.crews = c) (hbb : p.burst = b) (ht : 0 ≤ t ∧ t ≤ 120)
    (hf : fo = .none ∨ ∃ ms : List Int, fo = .tuple (ms.map PyData.int) ∧ ms.length ≤ 500 ∧ isWI c p.work p.every b p.gap t ms = true) :
    Run K E (tSeq (tAsg (tIf (tAnd (tTest (tOp (rD2 K isOk isnD) (tVar 9) (tC .non))) (tTest (tOp (rD2 K ltXOk ltXD) (tCB (rDn K lenOk lenD) (tCons (tVar 9) tNil)) (tC (.int 60))))) (tVar 9) (tTup (tCons (tC (.int 0)) (tCons (tC (.int 0)) (tCons (tC (.int 4)) (tCons (tC (.int 8)) tNil)))))) (gName 10))
    (tSeq (tFor (iRng1 (tCons (tC (.int 6)) tNil)) (gName 11) (tSeq (tAsg (tCall (spF K (R__law_near K C T)) [] E (tCons (tVar 0) (tCons (tVar 10) tNil))) (gName 12))
    (tSeq (tIfS (tTest (tOp (rD2 K eqOk neD) (tCall (spF K (R_is_waiting K C T)) [] E (tCons (tVar 2) (tCons (tVar 3) (tCons (tVar 4) (tCons (tVar 5) (tCons (tVar 6) (tCons (tVar 8) (tCons (tVar 12) tNil)))))))) (tCall (spF K (R__law_is_due K C T)) [] E (tCons (tVar 1) (tCons (tVar 8) (tCons (tVar 12) tNil)))))) (tRet (tC (.bl false))) tNext)
    (tIfS (tTest (tOp (rD2 K eqOk neD) (tCallM (spF K (R_is_waiting K C T)) 6 1 [0, 1, 2, 3, 4, 5, 6] E (tCons (tVar 2) (tCons (tVar 3) (tCons (tVar 4) (tCons (tVar 5) (tCons (tVar 6) (tCons (tC (.int 0)) tNil)))))) (tCons (tVar 12) tNil)) (tCall (spF K (R__law_is_due K C T)) [] E (tCons (tVar 1) (tCons (tC (.int 0)) (tCons (tVar 12) tNil)))))) (tRet (tC (.bl false))) tNext))))
    (tRet (tAndV (tOp (rD2 K eqOk eqD) (tCall (spF K (R_is_waiting K C T)) [] E (tCons (tVar 2) (tCons (tVar 3) (tCons (tVar 4) (tCons (tVar 5) (tCons (tVar 6) (tCons (tVar 8) (tCons (tVar 9) tNil)))))))) (tOp (rD2 K isOk isnD) (tVar 9) (tC .non))) (tCall (spF K (R__law_refuses K C T)) [] E (tCons (tVar 0) (tCons (tVar 1) tNil)))))))
    ⟨[.res (lstR K (some v) (dl Dc)), .dat (plD p), .dat (.int c), .dat (.int p.work), .dat (.int p.every), .dat (.int b), .dat (.int p.gap), .dat lo, .dat (.int t), .dat fo, .unk, .unk, .unk], T⟩ (.rt (.bool true) ⟨[.unk, .unk, .unk, .unk, .unk, .unk, .unk, .unk, .unk, .unk, .unk, .unk, .unk], T⟩) := by
  have pc := hp.crews; have pw := hp.work; have pe := hp.every; have pb := hp.burst; have pg := hp.gap
  have ec : p.crews.toNat = c := by omega
  have start : ∃ ss : List Int, ss.length ≤ 100 ∧ Ev K (tIf (tAnd (tTest (tOp (rD2 K isOk isnD) (tVar 9) (tC .non))) (tTest (tOp (rD2 K ltXOk ltXD) (tCB (rDn K lenOk lenD) (tCons (tVar 9) tNil)) (tC (.int 60))))) (tVar 9) (tTup (tCons (tC (.int 0)) (tCons (tC (.int 0)) (tCons (tC (.int 4)) (tCons (tC (.int 8)) tNil)))))) ⟨[.res (lstR K (some v) (dl Dc)), .dat (plD p), .dat (.int c), .dat (.int p.work), .dat (.int p.every), .dat (.int b), .dat (.int p.gap), .dat lo, .dat (.int t), .dat fo, .unk, .unk, .unk], T⟩ (.tuple (ss.map PyData.int)) ⟨[.res (lstR K (some v) (dl Dc)), .dat (plD p), .dat (.int c), .dat (.int p.work), .dat (.int p.every), .dat (.int b), .dat (.int p.gap), .dat lo, .dat (.int t), .dat fo, .unk, .unk, .unk], T⟩ := by
    rcases hf with h | ⟨ms, h, hl, _⟩ <;> subst h
    · exact ⟨[0, 0, 4, 8], by decide, ev_ifF (et_andF (EvT.to (et_test (ev_isnN (x := .none) (ev_var rfl) ev_non)) rfl)) (ev_tup (ea_cons ev_int (ea_cons ev_int (ea_cons ev_int (ea_cons ev_int ea_nil)))) (le_size (by simp)))⟩
    · have tst : EvT K (tAnd (tTest (tOp (rD2 K isOk isnD) (tVar 9) (tC .non))) (tTest (tOp (rD2 K ltXOk ltXD) (tCB (rDn K lenOk lenD) (tCons (tVar 9) tNil)) (tC (.int 60))))) ⟨[.res (lstR K (some v) (dl Dc)), .dat (plD p), .dat (.int c), .dat (.int p.work), .dat (.int p.every), .dat (.int b), .dat (.int p.gap), .dat lo, .dat (.int t), .dat (.tuple (ms.map PyData.int)), .unk, .unk, .unk], T⟩ (decide ((ms.length : Int) < 60)) ⟨[.res (lstR K (some v) (dl Dc)), .dat (plD p), .dat (.int c), .dat (.int p.work), .dat (.int p.every), .dat (.int b), .dat (.int p.gap), .dat lo, .dat (.int t), .dat (.tuple (ms.map PyData.int)), .unk, .unk, .unk], T⟩ :=
        EvT.to (et_and (a := true) (EvT.to (et_test (ev_isnN (x := .tuple _) (ev_var rfl) ev_non)) rfl) fun _ => et_test (ev_ltI (ev_lenTI (ev_var rfl)) ev_int)) (Bool.true_and _)
      by_cases c60 : (ms.length : Int) < 60
      · rw [decide_eq_true c60] at tst
        exact ⟨ms, by omega, ev_ifT tst (ev_var rfl)⟩
      · rw [decide_eq_false c60] at tst
        exact ⟨[0, 0, 4, 8], by decide, ev_ifF tst (ev_tup (ea_cons ev_int (ea_cons ev_int (ea_cons ev_int (ea_cons ev_int ea_nil)))) (le_size (by simp)))⟩
  obtain ⟨ss, sl, hs⟩ := start
  refine run_seq (run_asg hs) ?_
  walk_at "d"
  -- what is_waiting and the law say of a near one
  have isw : ∀ {s : S} {y : D} {u : Int} {tu ty : TE}, NearOk y → 0 ≤ u ∧ u ≤ 120 → s.s[2]? = some (.dat (.int c)) → s.s[3]? = some (.dat (.int p.work)) → s.s[4]? = some (.dat (.int p.every)) → s.s[5]? = some (.dat (.int b)) → s.s[6]? = some (.dat (.int p.gap)) → Ev K tu s (.int u) s → Ev K ty s y s →
      Ev K (tCall (spF K (R_is_waiting K C T)) [] E (tCons (tVar 2) (tCons (tVar 3) (tCons (tVar 4) (tCons (tVar 5) (tCons (tVar 6) (tCons tu (tCons ty tNil)))))))) s (.bool (isWV c p.work p.every b p.gap u y)) s := by
    intro s y u tu ty hy hu h2 h3 h4 h5 h6 hu2 hy2
    rcases hy with ⟨ms, rfl, hm⟩ | ⟨h7, h8, h9⟩
    · rw [isWV_t]
      exact ev_call (ea_cons (ev_var h2) (ea_cons (ev_var h3) (ea_cons (ev_var h4) (ea_cons (ev_var h5) (ea_cons (ev_var h6) (ea_cons hu2 (ea_cons hy2 ea_nil))))))) (.tup (by omega) pw pe (by omega) pg hu hm)
    · have : isWV c p.work p.every b p.gap u y = false := by cases y <;> first | rfl | cases h7
      rw [this]
      exact ev_call (ea_cons (ev_var h2) (ea_cons (ev_var h3) (ea_cons (ev_var h4) (ea_cons (ev_var h5) (ea_cons (ev_var h6) (ea_cons hu2 (ea_cons hy2 ea_nil))))))) (.oth (by omega) pw pe (by omega) pg hu h8 h9 h7)
  have iswM : ∀ {s : S} {y : D} {u : Int} {tu ty : TE}, NearOk y → 0 ≤ u ∧ u ≤ 120 → s.s[2]? = some (.dat (.int c)) → s.s[3]? = some (.dat (.int p.work)) → s.s[4]? = some (.dat (.int p.every)) → s.s[5]? = some (.dat (.int b)) → s.s[6]? = some (.dat (.int p.gap)) → Ev K tu s (.int u) s → Ev K ty s y s →
      Ev K (tCallM (spF K (R_is_waiting K C T)) 6 1 [0, 1, 2, 3, 4, 5, 6] E (tCons (tVar 2) (tCons (tVar 3) (tCons (tVar 4) (tCons (tVar 5) (tCons (tVar 6) (tCons tu tNil)))))) (tCons ty tNil)) s (.bool (isWV c p.work p.every b p.gap u y)) s := by
    intro s y u tu ty hy hu h2 h3 h4 h5 h6 hu2 hy2
    rcases hy with ⟨ms, rfl, hm⟩ | ⟨h7, h8, h9⟩
    · rw [isWV_t]
      exact ev_callM (ea_cons (ev_var h2) (ea_cons (ev_var h3) (ea_cons (ev_var h4) (ea_cons (ev_var h5) (ea_cons (ev_var h6) (ea_cons hu2 ea_nil)))))) (ea_cons hy2 ea_nil) rfl rfl (by decide) (.tup (by omega) pw pe (by omega) pg hu hm)
    · have : isWV c p.work p.every b p.gap u y = false := by cases y <;> first | rfl | cases h7
      rw [this]
      exact ev_callM (ea_cons (ev_var h2) (ea_cons (ev_var h3) (ea_cons (ev_var h4) (ea_cons (ev_var h5) (ea_cons (ev_var h6) (ea_cons hu2 ea_nil)))))) (ea_cons hy2 ea_nil) rfl rfl (by decide) (.oth (by omega) pw pe (by omega) pg hu h8 h9 h7)
  have isd : ∀ {s : S} {y : D} {u : Int} {tu ty : TE}, NearOk y → s.s[1]? = some (.dat (plD p)) → Ev K tu s (.int u) s → Ev K ty s y s →
      Ev K (tCall (spF K (R__law_is_due K C T)) [] E (tCons (tVar 1) (tCons tu (tCons ty tNil)))) s (.bool (isWV c p.work p.every b p.gap u y)) s := by
    intro s y u tu ty hy h1 hu2 hy2
    rcases hy with ⟨ms, rfl, hm⟩ | ⟨h7, h8, h9⟩
    · rw [isWV_t]
      have := ev_call (K := K) (E := E) (R := R__law_is_due K C T) (ea_cons (ev_var h1) (ea_cons hu2 (ea_cons hy2 ea_nil))) (.tup hp hm)
      rw [ec, hbb] at this
      exact this
    · have : isWV c p.work p.every b p.gap u y = false := by cases y <;> first | rfl | cases h7
      rw [this]
      exact ev_call (ea_cons (ev_var h1) (ea_cons hu2 (ea_cons hy2 ea_nil))) (.oth h8 h7)
  apply run_seq
  · refine run_for (s1 := ⟨[.res (lstR K (some v) (dl Dc)), .dat (plD p), .dat (.int c), .dat (.int p.work), .dat (.int p.every), .dat (.int b), .dat (.int p.gap), .dat lo, .dat (.int t), .dat fo, .dat (.tuple (ss.map PyData.int)), .unk, .unk], T⟩) (ds := DL.upTo 0 6) (fun i => ⟨[.res (lstR K (some v) (dl (ndc ss Dc i))), .dat (plD p), .dat (.int c), .dat (.int p.work), .dat (.int p.every), .dat (.int b), .dat (.int p.gap), .dat lo, .dat (.int t), .dat fo, .dat (.tuple (ss.map PyData.int)), .unk, .unk], T⟩) (it_r1 (n := 6) ev_int (by decide)) (Fo.le (by walk_at "fo")) fun i y hy => ?_
    obtain ⟨hi, rfl⟩ := upTo_get hy
    have q := ndc_ok (ns := ss) hD i
    have en : ndc ss Dc (i + 1) = CM.rd (nearDc (ndc ss Dc i) ss) (9 : Nat) := rfl
    rw [en]
    generalize ndc ss Dc i = Di at q ⊢
    have nk := near_ok (d := Di) (ns := ss) sl
    refine ⟨_, tg_name, ?_⟩
    walk_at "d"
    apply run_seq
    · apply run_asg
      exact ev_callL rfl (ea_cons (ev_var rfl) ea_nil) rfl fun v => .mk q (by omega) sl
    walk_at "d"
    generalize nearD Di ss = y at nk ⊢
    apply run_seq
    · apply run_no
      · exact boolT_no (isw nk ht rfl rfl rfl rfl rfl (ev_var rfl) (ev_var rfl)) (isd nk rfl (ev_var rfl) (ev_var rfl))
      · exact run_next
    refine run_le (run_no (boolT_no (iswM nk (by decide) rfl rfl rfl rfl rfl ev_int (ev_var rfl)) (isd nk rfl ev_int (ev_var rfl))) run_next) ?_
    exact Fo.le (by walk_at "fo")
  have q := ndc_ok (ns := ss) hD 6
  rw [upTo_len]
  generalize ndc ss Dc 6 = D6 at q ⊢
  apply run_retle
  · apply ev_andT
    · show Ev K _ ⟨[.res (lstR K (some v) (dl D6)), .dat (plD p), .dat (.int c), .dat (.int p.work), .dat (.int p.every), .dat (.int b), .dat (.int p.gap), .dat lo, .dat (.int t), .dat fo, .dat (.tuple (ss.map PyData.int)), .unk, .unk], T⟩ _ ⟨[.res (lstR K (some v) (dl D6)), .dat (plD p), .dat (.int c), .dat (.int p.work), .dat (.int p.every), .dat (.int b), .dat (.int p.gap), .dat lo, .dat (.int t), .dat fo, .dat (.tuple (ss.map PyData.int)), .unk, .unk], T⟩
      rcases hf with h | ⟨ms, h, hl, hw⟩ <;> subst h
      · refine Ev.to (ev_eqT (isw (.inr ⟨rfl, rfl, rfl⟩) ht rfl rfl rfl rfl rfl (ev_var rfl) (ev_var rfl)) (ev_isnN (x := .none) (ev_var rfl) ev_non) ⟨(sh_bl (n := 0)).ok (by decide), (sh_bl (n := 0)).ok (by decide)⟩) ?_
        exact congrArg PyData.bool ((sh_bl (n := 0) (b := false)).eqv)
      · refine Ev.to (ev_eqT (isw (.inl ⟨ms, rfl, by omega⟩) ht rfl rfl rfl rfl rfl (ev_var rfl) (ev_var rfl)) (ev_isnN (x := .tuple _) (ev_var rfl) ev_non) ⟨(sh_bl (n := 0)).ok (by decide), (sh_bl (n := 0)).ok (by decide)⟩) ?_
        rw [isWV_t, hw]
        exact congrArg PyData.bool ((sh_bl (n := 0) (b := true)).eqv)
    · exact ev_callL rfl (ea_cons (ev_var rfl) ea_nil) rfl fun v => .mk q (by omega)
  · walk_at "d"
    exact Fo.le (by walk_at "fo")
theorem wm {c b : Nat} {w e gp t : Int} {s : S} {r : D} (h2 : s.s[2]? = some (.dat (.int c))) (h3 : s.s[3]? = some (.dat (.int w))) (h4 : s.s[4]? = some (.dat (.int e))) (h5 : s.s[5]? = some (.dat (.int b))) (h6 : s.s[6]? = some (.dat (.int gp))) (h8 : s.s[8]? = some (.dat (.int t)))
    (hR : ∀ g, R_waiting K C T ⟨[.dat (.int c), .dat (.int w), .dat (.int e), .dat (.int b), .dat (.int gp), .dat (.int t)], g⟩ (.rt r ⟨[.dat (.int c), .dat (.int w), .dat (.int e), .dat (.int b), .dat (.int gp), .dat (.int t)], g⟩)) :
    Ev K (tCallM (spF K (R_waiting K C T)) 0 6 [5, 4, 3, 2, 1, 0] E tNil (tCons (tVar 8) (tCons (tVar 6) (tCons (tVar 5) (tCons (tVar 4) (tCons (tVar 3) (tCons (tVar 2) tNil))))))) s r s :=
  ev_callM ea_nil (ea_cons (ev_var h8) (ea_cons (ev_var h6) (ea_cons (ev_var h5) (ea_cons (ev_var h4) (ea_cons (ev_var h3) (ea_cons (ev_var h2) ea_nil)))))) rfl rfl (by decide) (hR _)
theorem rd__law_right {v : V} {d : Dice} (hd : DOk 0 d) : Run K E (t__law_right K C T E) ⟨[.res (lstR K (some v) (dl d)), .unk, .unk, .unk, .unk, .unk, .unk, .unk, .unk, .unk, .unk, .unk, .unk], T⟩ (.rt (.bool true) ⟨[.unk, .unk, .unk, .unk, .unk, .unk, .unk, .unk, .unk, .unk, .unk, .unk, .unk], T⟩) := by
  obtain ⟨p, D2, hp, hD2, own⟩ := run_own (K := K) (C := C) (T := T) (E := E) (s := ⟨[.res (lstR K (some v) (dl d)), .unk, .unk, .unk, .unk, .unk, .unk, .unk, .unk, .unk, .unk, .unk, .unk], T⟩) (j := 1) (t := 3) rfl hd (by decide) (by decide)
  refine run_seq own ?_
  clear own
  walk_at "d"
  have pc := hp.crews; have pw := hp.work; have pe := hp.every; have pb := hp.burst; have pg := hp.gap
  obtain ⟨c, hcc⟩ : ∃ c : Nat, p.crews = c := ⟨p.crews.toNat, by omega⟩
  obtain ⟨b, hbb⟩ : ∃ b : Nat, p.burst = b := ⟨p.burst.toNat, by omega⟩
  have ec : p.crews.toNat = c := by omega
  apply run_seq
  · apply run_asgT
    · apply ev_tup (ds := [.int c, .int p.work, .int p.every, .int b, .int p.gap])
      · exact ea_cons (Ev.to (ev_dgetS (ev_var rfl) pl_crews) (by rw [hcc])) (ea_cons (ev_dgetS (ev_var rfl) pl_work) (ea_cons (ev_dgetS (ev_var rfl) pl_every) (ea_cons (Ev.to (ev_dgetS (ev_var rfl) pl_burst) (by rw [hbb])) (ea_cons (ev_dgetS (ev_var rfl) pl_gap) ea_nil))))
      · exact le_size (by simp)
    · walk_at "tg"
  walk_at "d"
  apply run_seq
  · apply run_asg (d := oD (dlyO c p.work p.every p.gap b))
    apply Ev.to
    · apply ev_call
      · exact ea_cons (ev_var rfl) (ea_cons (ev_var rfl) ea_nil)
      · exact .mk hp (by omega) (by omega)
    · rw [ec]
  walk_at "d"
  have dark1 : darkO c p.work p.every b p.gap (1 : Nat) = (dlyO c p.work p.every p.gap b).map fun found => max 0 found := by
    unfold darkO
    rw [show (max 1 ((b : Int) - (1 : Nat) + 1)).toNat = b by omega]
    congr 1
    funext x
    rw [show max 0 (((1 : Nat) : Int) - (b : Int)) = 0 by omega]
    simp
  have mb : manyOf b 1 = b := by unfold manyOf; omega
  have m0 : mM b 1 = 0 := by unfold mM; omega
  cases hd3 : dlyO c p.work p.every p.gap b with
  | none =>
    have hcg : (c : Int) * p.gap < p.work := by
      unfold dlyO at hd3
      by_cases z : (c : Int) * p.gap < p.work
      · exact z
      · rw [if_neg z] at hd3; cases hd3
    have r0 := rv0 (d := D2) (t := 60) (by decide)
    have r1 := rv1 (d := D2) (t := 60) (by decide)
    apply run_seq
    · apply run_asg
      exact ev_ifT (EvT.to (et_test (ev_isN (x := .none) (ev_var rfl) ev_non)) rfl) (ev_rollD (d0 := D2) rfl ev_int rfl hD2 (by omega) (by decide) (by decide) rfl)
    walk_at "d"
    have hD3 : DOk 100 (CM.rd D2 60) := hD2.rd.up (by omega)
    generalize CM.rd D2 60 = D3 at hD3 ⊢
    generalize rv D2 60 = t at r0 r1 ⊢
    have hN : 59 * c ≤ 236 := by omega
    have ff := ff_behind (c := c) (w := p.work) (e := p.every) (g := p.gap) (b := b) (l := 1) (ticks := t) (R := 59) (by omega) (by omega) (by omega) (by omega) (by omega) (by omega) hcg (by rw [m0]; omega) (by omega)
    have due := ff_due (t := t) (by omega) pw pe (by omega) pg (by omega) ff
    apply run_seq
    · apply run_asg
      exact wm rfl rfl rfl rfl rfl rfl fun g => .ok (by omega) pw pe (by omega) pg (by omega) (fun L hL => by rw [dark1, hd3] at hL; cases hL) (by omega) ff
    walk_at "d"
    apply run_seq
    · apply run_no
      · apply EvT.to
        · apply et_or (a := false)
          · exact boolT_no (x := false) (Ev.to (ev_isN (x := .tuple _) (ev_var rfl) ev_non) rfl) (ev_andF (Ev.to (ev_isnN (x := .none) (ev_var rfl) ev_non) rfl))
          · intro _
            refine et_and (a := true) (EvT.to (et_test (ev_isnN (x := .tuple _) (ev_var rfl) ev_non)) rfl) fun _ => et_not (et_B (b := true) (Ev.to (ev_call (R := R__law_is_due K C T) (ea_cons (ev_var rfl) (ea_cons (ev_var rfl) (ea_cons (ev_var rfl) ea_nil))) (.tup hp (by have := due.2; omega))) ?_))
            rw [ec, hbb, due.1]
        · rfl
      · exact run_next
    exact right_rest hD3 hp hcc hbb (by omega) (.inr ⟨_, rfl, due.2, due.1⟩)
  | some L =>
    have lpos : 0 < L := by
      have hcg : ¬ (c : Int) * p.gap < p.work := fun z => by
        unfold dlyO at hd3
        rw [if_pos z] at hd3; cases hd3
      have h := lw_dly (c := c) (w := p.work) (e := p.every) (g := p.gap) (many := b) (by omega) (by omega) (by omega) (by omega) (by omega) (by omega) (by omega) (by omega)
      unfold dlyO at hd3
      rw [if_neg hcg] at hd3
      cases hd3
      rw [upTo_ints]
      have hne : ((List.range p.every.toNat).map fun i => bw c p.work p.every p.gap b (i : Nat)) ≠ [] := fun z => by
        have := congrArg List.length z
        simp at this
        omega
      obtain ⟨i, _, hv⟩ := List.mem_map.mp (lmax_mem hne)
      rw [← hv, ← lw_bw (by omega) (by omega) (by omega) (by omega) (by omega) (by omega) (by omega) (by omega)]
      have := lw_pos (w := p.work) (e := p.every) (g := p.gap) (c := c) (many := b) (ph := (i : Nat)) (by omega) (by omega) (by omega) (by omega) (by omega)
      omega
    apply run_seq
    · apply run_asg (d := .int (tickA D2 L))
      apply ev_ifF
      · exact EvT.to (et_test (ev_isN (x := .int L) (ev_var rfl) ev_non)) rfl
      · apply ev_minI
        · exact ev_int
        apply ev_maxI
        · exact ev_int
        apply ev_addI
        · exact ev_var (d := .int L) rfl
        apply ev_pickD (d0 := D2) (d := D2) (xs := [.int (-2), .int (-1), .int 0, .int 0, .int 1]) (hd := hD2) (hx := pickA)
        · rfl
        · walk_at "ev"
        · rfl
        · omega
        · exact List.cons_ne_nil _ _
        · show 5 < 1073741824; omega
    walk_at "d"
    have hD3 : DOk 100 (CM.rd D2 (([.int (-2), .int (-1), .int 0, .int 0, .int 1] : List D).length : Nat)) := hD2.rd.up (by omega)
    generalize CM.rd D2 (([.int (-2), .int (-1), .int 0, .int 0, .int 1] : List D).length : Nat) = D3 at hD3 ⊢
    have t0 : 0 ≤ tickA D2 L ∧ tickA D2 L ≤ 120 := by unfold tickA; omega
    generalize tickA D2 L = t at t0 ⊢
    have dark2 : darkO c p.work p.every b p.gap (1 : Nat) = some L := by
      rw [dark1, hd3]
      show some (max 0 L) = some L
      congr 1
      omega
    by_cases less : L < t
    · apply run_seq
      · apply run_asg
        exact wm rfl rfl rfl rfl rfl rfl fun g => .none (by omega) pw pe (by omega) pg (by omega) dark2 less
      walk_at "d"
      apply run_seq
      · apply run_no
        · apply EvT.to
          · apply et_or (a := false)
            · refine boolT_no (x := true) (Ev.to (ev_isN (x := .none) (ev_var rfl) ev_non) rfl) (Ev.to (ev_and (a := true) (Ev.to (ev_isnN (x := .int L) (ev_var rfl) ev_non) rfl) fun _ => ev_ltI (a := L) (ev_var rfl) (ev_var rfl)) ?_)
              rw [decide_eq_true less]; rfl
            · intro _
              exact et_andF (EvT.to (et_test (ev_isnN (x := .none) (ev_var rfl) ev_non)) rfl)
          · rfl
        · exact run_next
      exact right_rest hD3 hp hcc hbb t0 (.inl rfl)
    · have ff := ff_keep (c := c) (w := p.work) (e := p.every) (g := p.gap) (b := b) (l := 1) (ticks := t) (D := L) (by omega) (by omega) (by omega) (by omega) (by omega) (by omega) (by omega) (by omega) (by rw [mb]; exact hd3) (by rw [m0]; omega)
      have due := ff_due (t := t) (by omega) pw pe (by omega) pg (by omega) ff
      apply run_seq
      · apply run_asg
        exact wm rfl rfl rfl rfl rfl rfl fun g => .ok (by omega) pw pe (by omega) pg (by omega) (fun L' hL => by rw [dark2] at hL; cases hL; omega) (by omega) ff
      walk_at "d"
      apply run_seq
      · apply run_no
        · apply EvT.to
          · apply et_or (a := false)
            · refine boolT_no (x := false) (Ev.to (ev_isN (x := .tuple _) (ev_var rfl) ev_non) rfl) (Ev.to (ev_and (a := true) (Ev.to (ev_isnN (x := .int L) (ev_var rfl) ev_non) rfl) fun _ => ev_ltI (a := L) (ev_var rfl) (ev_var rfl)) ?_)
              rw [decide_eq_false less]; rfl
            · intro _
              refine et_and (a := true) (EvT.to (et_test (ev_isnN (x := .tuple _) (ev_var rfl) ev_non)) rfl) fun _ => et_not (et_B (b := true) (Ev.to (ev_call (R := R__law_is_due K C T) (ea_cons (ev_var rfl) (ea_cons (ev_var rfl) (ea_cons (ev_var rfl) ea_nil))) (.tup hp (by have := due.2; omega))) ?_))
              rw [ec, hbb, due.1]
          · rfl
        · exact run_next
      exact right_rest hD3 hp hcc hbb t0 (.inr ⟨_, rfl, due.2, due.1⟩)
theorem rd_law {ns : List Int} (h : ns.length ≤ 63) : Run K E (t_law K C T E) ⟨[.dat (scrD ns), .unk], T⟩ (.rt (.bool true) ⟨[.unk, .unk], T⟩) := by
  apply run_seq
  · refine run_for (s1 := ⟨[.dat (scrD ns), .unk], T⟩) (ds := DL.upTo 0 (max 1 (min 4 (ns.length : Int))).toNat) (fun i => ⟨[.dat (scrD ns), .unk], T⟩) ?_ (SLe.refl _) fun i d hd => ?_
    · exact it_rng1 (n := max 1 (min 4 (ns.length : Int))) (ea_cons (ev_maxI ev_int (ev_minI ev_int (ev_lenS (ev_var rfl)))) ea_nil) (by omega)
    · obtain ⟨hi, rfl⟩ := upTo_get hd
      refine ⟨_, tg_name, ?_⟩
      walk_at "d"
      refine run_le (s1 := ⟨[.dat (scrD ns), .dat (.int (0 + (i : Int)))], T⟩) ?_ (Fo.le (by walk_at "fo"))
      · apply run_no
        · apply EvT.to
          · apply et_not
            apply et_B (b := true)
            apply ev_callOw
            · apply eo_call
              · walk_at "ea"
              · exact .mk (by omega)
            · exact ea_nil
            · intro v
              exact .mk (dice0_ok _ _)
          · rfl
        · exact run_next
  exact run_retle ev_bl (Fo.le (by walk_at "fo"))
end K07

namespace K07
open PySem PySem.Spec PyProof.Rows L2 DL CM LamX
def top (i : Nat) : Stmt := PySem.Challenge.pw_streetslit_k07_whole_faults_that_wait.main.body.getD i (.Pass ⟨0, 0, 0, 0⟩)
abbrev s_is_integer : Stmt := top 5
abbrev s_is_in : Stmt := top 6
abbrev s_is_tick : Stmt := top 7
abbrev s_are_at_most : Stmt := top 8
abbrev s_demand : Stmt := top 9
abbrev s_are_times : Stmt := top 19
abbrev s_serve : Stmt := top 20
abbrev s_finish_all : Stmt := top 21
abbrev s_read_at : Stmt := top 22
abbrev s_are_kept : Stmt := top 23
abbrev s_wait_all : Stmt := top 24
abbrev s_period_of : Stmt := top 25
abbrev s_lead_period : Stmt := top 26
abbrev s_busy_at : Stmt := top 27
abbrev s_burst_wait : Stmt := top 28
abbrev s_delay_of : Stmt := top 29
abbrev s_demand_all : Stmt := top 30
abbrev s_dark_of : Stmt := top 31
abbrev s_times_ahead : Stmt := top 32
abbrev s_faults_for : Stmt := top 33
abbrev s_waiting : Stmt := top 34
abbrev s_is_waiting : Stmt := top 35
abbrev s__law_dice : Stmt := top 37
abbrev s__law_roll : Stmt := top 38
abbrev s__law_pick : Stmt := top 39
abbrev s__law_refused : Stmt := top 40
abbrev s__law_l_choices : Stmt := top 41
abbrev s__law_l_wide : Stmt := top 42
abbrev s__law_l_ends : Stmt := top 43
abbrev s__law_l_told : Stmt := top 44
abbrev s__law_l_delay : Stmt := top 45
abbrev s__law_is_due : Stmt := top 46
abbrev s__law_near : Stmt := top 47
abbrev s__law_refuses : Stmt := top 48
abbrev s__law_right : Stmt := top 49
abbrev s_law : Stmt := top 50
theorem sc_is_integer : FnScope ["value"] ["value"] (defScope s_is_integer) := ⟨rfl, rfl, rfl, by decide +kernel, rfl, by decide +kernel, by decide +kernel⟩
theorem sc_is_in : FnScope ["value", "low", "high"] ["value", "low", "high"] (defScope s_is_in) := ⟨rfl, rfl, rfl, by decide +kernel, rfl, by decide +kernel, by decide +kernel⟩
theorem sc_is_tick : FnScope ["value"] ["value"] (defScope s_is_tick) := ⟨rfl, rfl, rfl, by decide +kernel, rfl, by decide +kernel, by decide +kernel⟩
theorem sc_are_at_most : FnScope ["value", "many"] ["value", "many"] (defScope s_are_at_most) := ⟨rfl, rfl, rfl, by decide +kernel, rfl, by decide +kernel, by decide +kernel⟩
theorem sc_demand : FnScope ["is_good", "name"] ["is_good", "name"] (defScope s_demand) := ⟨rfl, rfl, rfl, by decide +kernel, rfl, by decide +kernel, by decide +kernel⟩
theorem sc_are_times : FnScope ["value", "one", "two", "tick"] ["value"] (defScope s_are_times) := ⟨rfl, rfl, rfl, by decide +kernel, rfl, by decide +kernel, by decide +kernel⟩
theorem sc_serve : FnScope ["free", "work", "tick", "at"] ["free", "work", "tick"] (defScope s_serve) := ⟨rfl, rfl, rfl, by decide +kernel, rfl, by decide +kernel, by decide +kernel⟩
theorem sc_finish_all : FnScope ["crews", "work", "times", "free", "crew", "tick"] ["crews", "work", "times"] (defScope s_finish_all) := ⟨rfl, rfl, rfl, by decide +kernel, rfl, by decide +kernel, by decide +kernel⟩
theorem sc_read_at : FnScope ["every", "tick"] ["every", "tick"] (defScope s_read_at) := ⟨rfl, rfl, rfl, by decide +kernel, rfl, by decide +kernel, by decide +kernel⟩
theorem sc_are_kept : FnScope ["burst", "gap", "times", "at", "to"] ["burst", "gap", "times"] (defScope s_are_kept) := ⟨rfl, rfl, rfl, by decide +kernel, rfl, by decide +kernel, by decide +kernel⟩
theorem sc_wait_all : FnScope ["crews", "work", "every", "times", "ends", "end", "tick"] ["crews", "work", "every", "times"] (defScope s_wait_all) := ⟨rfl, rfl, rfl, by decide +kernel, rfl, by decide +kernel, by decide +kernel⟩
theorem sc_period_of : FnScope ["every", "gap", "found"] ["every", "gap"] (defScope s_period_of) := ⟨rfl, rfl, rfl, by decide +kernel, rfl, by decide +kernel, by decide +kernel⟩
theorem sc_lead_period : FnScope ["free", "work", "every", "gap", "start", "period", "after", "tick"] ["free", "work", "every", "gap", "start"] (defScope s_lead_period) := ⟨rfl, rfl, rfl, by decide +kernel, rfl, by decide +kernel, by decide +kernel⟩
theorem sc_busy_at : FnScope ["crews", "work", "every", "gap", "start", "free", "after", "crew"] ["crews", "work", "every", "gap", "start"] (defScope s_busy_at) := ⟨rfl, rfl, rfl, by decide +kernel, rfl, by decide +kernel, by decide +kernel⟩
theorem sc_burst_wait : FnScope ["crews", "work", "every", "gap", "many", "start", "free", "turn", "end"] ["crews", "work", "every", "gap", "many", "start"] (defScope s_burst_wait) := ⟨rfl, rfl, rfl, by decide +kernel, rfl, by decide +kernel, by decide +kernel⟩
theorem sc_delay_of : FnScope ["crews", "work", "every", "gap", "many", "start"] ["crews", "work", "every", "gap", "many"] (defScope s_delay_of) := ⟨rfl, rfl, rfl, by decide +kernel, rfl, by decide +kernel, by decide +kernel⟩
theorem sc_demand_all : FnScope ["crews", "work", "every", "burst", "gap"] ["crews", "work", "every", "burst", "gap"] (defScope s_demand_all) := ⟨rfl, rfl, rfl, by decide +kernel, rfl, by decide +kernel, by decide +kernel⟩
theorem sc_dark_of : FnScope ["crews", "work", "every", "burst", "gap", "lamps", "found"] ["crews", "work", "every", "burst", "gap", "lamps"] (defScope s_dark_of) := ⟨rfl, rfl, rfl, by decide +kernel, rfl, by decide +kernel, by decide +kernel⟩
theorem sc_times_ahead : FnScope ["every", "burst", "gap", "lamps", "singles", "phase", "first", "last", "found", "at"] ["every", "burst", "gap", "lamps", "singles", "phase"] (defScope s_times_ahead) := ⟨rfl, rfl, rfl, by decide +kernel, rfl, by decide +kernel, by decide +kernel⟩
theorem sc_faults_for : FnScope ["crews", "work", "every", "burst", "gap", "lamps", "ticks", "longest", "singles", "phase", "times", "ends", "tick"] ["crews", "work", "every", "burst", "gap", "lamps", "ticks"] (defScope s_faults_for) := ⟨rfl, rfl, rfl, by decide +kernel, rfl, by decide +kernel, by decide +kernel⟩
theorem sc_waiting : FnScope ["crews", "work", "every", "burst", "gap", "ticks", "found"] ["crews", "work", "every", "burst", "gap", "ticks"] (defScope s_waiting) := ⟨rfl, rfl, rfl, by decide +kernel, rfl, by decide +kernel, by decide +kernel⟩
theorem sc_is_waiting : FnScope ["crews", "work", "every", "burst", "gap", "ticks", "value"] ["crews", "work", "every", "burst", "gap", "ticks", "value"] (defScope s_is_waiting) := ⟨rfl, rfl, rfl, by decide +kernel, rfl, by decide +kernel, by decide +kernel⟩
theorem sc__law_dice : FnScope ["script", "spot", "own", "mixed", "cell"] ["script", "spot"] (defScope s__law_dice) := ⟨rfl, rfl, rfl, by decide +kernel, rfl, by decide +kernel, by decide +kernel⟩
theorem sc__law_roll : FnScope ["dice", "total", "found"] ["dice", "total"] (defScope s__law_roll) := ⟨rfl, rfl, rfl, by decide +kernel, rfl, by decide +kernel, by decide +kernel⟩
theorem sc__law_pick : FnScope ["dice", "things"] ["dice", "things"] (defScope s__law_pick) := ⟨rfl, rfl, rfl, by decide +kernel, rfl, by decide +kernel, by decide +kernel⟩
theorem sc__law_refused : FnScope ["call", "e"] ["call"] (defScope s__law_refused) := ⟨rfl, rfl, rfl, by decide +kernel, rfl, by decide +kernel, by decide +kernel⟩
theorem sc__law_l_choices : FnScope ["dice", "found"] ["dice"] (defScope s__law_l_choices) := ⟨rfl, rfl, rfl, by decide +kernel, rfl, by decide +kernel, by decide +kernel⟩
theorem sc__law_l_wide : FnScope ["dice", "found"] ["dice"] (defScope s__law_l_wide) := ⟨rfl, rfl, rfl, by decide +kernel, rfl, by decide +kernel, by decide +kernel⟩
theorem sc__law_l_ends : FnScope ["crews", "work", "times", "free", "found", "tick"] ["crews", "work", "times"] (defScope s__law_l_ends) := ⟨rfl, rfl, rfl, by decide +kernel, rfl, by decide +kernel, by decide +kernel⟩
theorem sc__law_l_told : FnScope ["every", "tick"] ["every", "tick"] (defScope s__law_l_told) := ⟨rfl, rfl, rfl, by decide +kernel, rfl, by decide +kernel, by decide +kernel⟩
theorem sc__law_l_delay : FnScope ["own", "many", "most", "singles", "phase", "first", "times", "ends", "at", "tick"] ["own", "many"] (defScope s__law_l_delay) := ⟨rfl, rfl, rfl, by decide +kernel, rfl, by decide +kernel, by decide +kernel⟩
theorem sc__law_is_due : FnScope ["own", "ticks", "value", "at", "ends", "tick", "to"] ["own", "ticks", "value"] (defScope s__law_is_due) := ⟨rfl, rfl, rfl, by decide +kernel, rfl, by decide +kernel, by decide +kernel⟩
theorem sc__law_near : FnScope ["dice", "value", "at", "by", "moved", "tick"] ["dice", "value"] (defScope s__law_near) := ⟨rfl, rfl, rfl, by decide +kernel, rfl, by decide +kernel, by decide +kernel⟩
theorem sc__law_refuses : FnScope ["dice", "own", "told", "bad"] ["dice", "own"] (defScope s__law_refuses) := ⟨rfl, rfl, rfl, by decide +kernel, rfl, by decide +kernel, by decide +kernel⟩
theorem sc__law_right : FnScope ["dice", "own", "crews", "work", "every", "burst", "gap", "longest", "ticks", "found", "start", "turn", "near"] ["dice"] (defScope s__law_right) := ⟨rfl, rfl, rfl, by decide +kernel, rfl, by decide +kernel, by decide +kernel⟩
theorem sc_law : FnScope ["script", "spot"] ["script"] (defScope s_law) := ⟨rfl, rfl, rfl, by decide +kernel, rfl, by decide +kernel, by decide +kernel⟩
structure Ad where
  C : Str → Addr
  I_BadArgument : Addr
  a_is_integer : Addr
  fd_is_integer : FuncData
  a_is_in : Addr
  fd_is_in : FuncData
  a_is_tick : Addr
  fd_is_tick : FuncData
  a_are_at_most : Addr
  fd_are_at_most : FuncData
  a_demand : Addr
  fd_demand : FuncData
  a_are_times : Addr
  fd_are_times : FuncData
  a_serve : Addr
  fd_serve : FuncData
  a_finish_all : Addr
  fd_finish_all : FuncData
  a_read_at : Addr
  fd_read_at : FuncData
  a_are_kept : Addr
  fd_are_kept : FuncData
  a_wait_all : Addr
  fd_wait_all : FuncData
  a_period_of : Addr
  fd_period_of : FuncData
  a_lead_period : Addr
  fd_lead_period : FuncData
  a_busy_at : Addr
  fd_busy_at : FuncData
  a_burst_wait : Addr
  fd_burst_wait : FuncData
  a_delay_of : Addr
  fd_delay_of : FuncData
  a_demand_all : Addr
  fd_demand_all : FuncData
  a_dark_of : Addr
  fd_dark_of : FuncData
  a_times_ahead : Addr
  fd_times_ahead : FuncData
  a_faults_for : Addr
  fd_faults_for : FuncData
  a_waiting : Addr
  fd_waiting : FuncData
  a_is_waiting : Addr
  fd_is_waiting : FuncData
  a__law_dice : Addr
  fd__law_dice : FuncData
  a__law_roll : Addr
  fd__law_roll : FuncData
  a__law_pick : Addr
  fd__law_pick : FuncData
  a__law_refused : Addr
  fd__law_refused : FuncData
  a__law_l_choices : Addr
  fd__law_l_choices : FuncData
  a__law_l_wide : Addr
  fd__law_l_wide : FuncData
  a__law_l_ends : Addr
  fd__law_l_ends : FuncData
  a__law_l_told : Addr
  fd__law_l_told : FuncData
  a__law_l_delay : Addr
  fd__law_l_delay : FuncData
  a__law_is_due : Addr
  fd__law_is_due : FuncData
  a__law_near : Addr
  fd__law_near : FuncData
  a__law_refuses : Addr
  fd__law_refuses : FuncData
  a__law_right : Addr
  fd__law_right : FuncData
  a_law : Addr
  fd_law : FuncData
  c__law_refuses : Addr
  p__law_refuses : Addr
  v_MOST_BURST : Value
  v_MOST_GAP : Value
  v_MOST_TICK : Value
  v_MOST_WORK : Value
  v_MOST_EVERY : Value
  v_MOST_ASKED : Value
  v_MOST_TIMES : Value
  v_MOST_WAITING : Value
  v_MOST_CREWS : Value
def Ad.T (A : Ad) : List (Addr × Str) := [(A.p__law_refuses, ("_law_refuses.<locals>." : Str) ++ "<lambda>")]
structure Tx (P : Program) (K : PySem.W.Frag) (mg : Str → Option Value) (A : Ad) : Prop where
  x_BadArgument : BX.ExTxt P K mg "BadArgument" "name" (A.C "BadArgument") A.I_BadArgument
  te_BadArgument : PySem.W.exmOne K (.ref (A.C "BadArgument")) (.ref (A.C "BadArgument")) = some true
  n_abs : mg "abs" = none
  n_all : mg "all" = none
  n_bool : mg "bool" = none
  n_int : mg "int" = none
  n_isinstance : mg "isinstance" = none
  n_len : mg "len" = none
  n_list : mg "list" = none
  n_max : mg "max" = none
  n_min : mg "min" = none
  n_range : mg "range" = none
  n_sorted : mg "sorted" = none
  n_tuple : mg "tuple" = none
  n_zip : mg "zip" = none
  g_is_integer : mg "is_integer" = some (.ref A.a_is_integer)
  F_is_integer : Fun K "is_integer" "is_integer" s_is_integer A.a_is_integer A.fd_is_integer
  b_is_integer : L2.Binds K A.fd_is_integer ["value"] []
  g_is_in : mg "is_in" = some (.ref A.a_is_in)
  F_is_in : Fun K "is_in" "is_in" s_is_in A.a_is_in A.fd_is_in
  b_is_in : L2.Binds K A.fd_is_in ["value", "low", "high"] []
  g_is_tick : mg "is_tick" = some (.ref A.a_is_tick)
  F_is_tick : Fun K "is_tick" "is_tick" s_is_tick A.a_is_tick A.fd_is_tick
  b_is_tick : L2.Binds K A.fd_is_tick ["value"] []
  g_are_at_most : mg "are_at_most" = some (.ref A.a_are_at_most)
  F_are_at_most : Fun K "are_at_most" "are_at_most" s_are_at_most A.a_are_at_most A.fd_are_at_most
  b_are_at_most : L2.Binds K A.fd_are_at_most ["value", "many"] []
  g_demand : mg "demand" = some (.ref A.a_demand)
  F_demand : Fun K "demand" "demand" s_demand A.a_demand A.fd_demand
  b_demand : L2.Binds K A.fd_demand ["is_good", "name"] []
  g_are_times : mg "are_times" = some (.ref A.a_are_times)
  F_are_times : Fun K "are_times" "are_times" s_are_times A.a_are_times A.fd_are_times
  b_are_times : L2.Binds K A.fd_are_times ["value"] []
  g_serve : mg "serve" = some (.ref A.a_serve)
  F_serve : Fun K "serve" "serve" s_serve A.a_serve A.fd_serve
  b_serve : L2.Binds K A.fd_serve ["free", "work", "tick"] []
  g_finish_all : mg "finish_all" = some (.ref A.a_finish_all)
  F_finish_all : Fun K "finish_all" "finish_all" s_finish_all A.a_finish_all A.fd_finish_all
  b_finish_all : L2.Binds K A.fd_finish_all ["crews", "work", "times"] []
  g_read_at : mg "read_at" = some (.ref A.a_read_at)
  F_read_at : Fun K "read_at" "read_at" s_read_at A.a_read_at A.fd_read_at
  b_read_at : L2.Binds K A.fd_read_at ["every", "tick"] []
  g_are_kept : mg "are_kept" = some (.ref A.a_are_kept)
  F_are_kept : Fun K "are_kept" "are_kept" s_are_kept A.a_are_kept A.fd_are_kept
  b_are_kept : L2.Binds K A.fd_are_kept ["burst", "gap", "times"] []
  g_wait_all : mg "wait_all" = some (.ref A.a_wait_all)
  F_wait_all : Fun K "wait_all" "wait_all" s_wait_all A.a_wait_all A.fd_wait_all
  b_wait_all : L2.Binds K A.fd_wait_all ["crews", "work", "every", "times"] []
  g_period_of : mg "period_of" = some (.ref A.a_period_of)
  F_period_of : Fun K "period_of" "period_of" s_period_of A.a_period_of A.fd_period_of
  b_period_of : L2.Binds K A.fd_period_of ["every", "gap"] []
  g_lead_period : mg "lead_period" = some (.ref A.a_lead_period)
  F_lead_period : Fun K "lead_period" "lead_period" s_lead_period A.a_lead_period A.fd_lead_period
  b_lead_period : L2.Binds K A.fd_lead_period ["free", "work", "every", "gap", "start"] []
  g_busy_at : mg "busy_at" = some (.ref A.a_busy_at)
  F_busy_at : Fun K "busy_at" "busy_at" s_busy_at A.a_busy_at A.fd_busy_at
  b_busy_at : L2.Binds K A.fd_busy_at ["crews", "work", "every", "gap", "start"] []
  g_burst_wait : mg "burst_wait" = some (.ref A.a_burst_wait)
  F_burst_wait : Fun K "burst_wait" "burst_wait" s_burst_wait A.a_burst_wait A.fd_burst_wait
  b_burst_wait : L2.Binds K A.fd_burst_wait ["crews", "work", "every", "gap", "many", "start"] []
  g_delay_of : mg "delay_of" = some (.ref A.a_delay_of)
  F_delay_of : Fun K "delay_of" "delay_of" s_delay_of A.a_delay_of A.fd_delay_of
  b_delay_of : L2.Binds K A.fd_delay_of ["crews", "work", "every", "gap", "many"] []
  g_demand_all : mg "demand_all" = some (.ref A.a_demand_all)
  F_demand_all : Fun K "demand_all" "demand_all" s_demand_all A.a_demand_all A.fd_demand_all
  b_demand_all : L2.Binds K A.fd_demand_all ["crews", "work", "every", "burst", "gap"] []
  g_dark_of : mg "dark_of" = some (.ref A.a_dark_of)
  F_dark_of : Fun K "dark_of" "dark_of" s_dark_of A.a_dark_of A.fd_dark_of
  b_dark_of : L2.Binds K A.fd_dark_of ["crews", "work", "every", "burst", "gap", "lamps"] []
  g_times_ahead : mg "times_ahead" = some (.ref A.a_times_ahead)
  F_times_ahead : Fun K "times_ahead" "times_ahead" s_times_ahead A.a_times_ahead A.fd_times_ahead
  b_times_ahead : L2.Binds K A.fd_times_ahead ["every", "burst", "gap", "lamps", "singles", "phase"] []
  g_faults_for : mg "faults_for" = some (.ref A.a_faults_for)
  F_faults_for : Fun K "faults_for" "faults_for" s_faults_for A.a_faults_for A.fd_faults_for
  b_faults_for : L2.Binds K A.fd_faults_for ["crews", "work", "every", "burst", "gap", "lamps", "ticks"] []
  g_waiting : mg "waiting" = some (.ref A.a_waiting)
  F_waiting : Fun K "waiting" "waiting" s_waiting A.a_waiting A.fd_waiting
  b_waiting : L2.Binds K A.fd_waiting ["crews", "work", "every", "burst", "gap", "ticks"] []
  g_is_waiting : mg "is_waiting" = some (.ref A.a_is_waiting)
  F_is_waiting : Fun K "is_waiting" "is_waiting" s_is_waiting A.a_is_waiting A.fd_is_waiting
  b_is_waiting : L2.Binds K A.fd_is_waiting ["crews", "work", "every", "burst", "gap", "ticks", "value"] []
  g__law_dice : mg "_law_dice" = some (.ref A.a__law_dice)
  F__law_dice : Fun K "_law_dice" "_law_dice" s__law_dice A.a__law_dice A.fd__law_dice
  b__law_dice : L2.Binds K A.fd__law_dice ["script", "spot"] []
  g__law_roll : mg "_law_roll" = some (.ref A.a__law_roll)
  F__law_roll : Fun K "_law_roll" "_law_roll" s__law_roll A.a__law_roll A.fd__law_roll
  b__law_roll : L2.Binds K A.fd__law_roll ["dice", "total"] []
  g__law_pick : mg "_law_pick" = some (.ref A.a__law_pick)
  F__law_pick : Fun K "_law_pick" "_law_pick" s__law_pick A.a__law_pick A.fd__law_pick
  b__law_pick : L2.Binds K A.fd__law_pick ["dice", "things"] []
  g__law_refused : mg "_law_refused" = some (.ref A.a__law_refused)
  F__law_refused : Fun K "_law_refused" "_law_refused" s__law_refused A.a__law_refused A.fd__law_refused
  b__law_refused : L2.Binds K A.fd__law_refused ["call"] []
  g__law_l_choices : mg "_law_l_choices" = some (.ref A.a__law_l_choices)
  F__law_l_choices : Fun K "_law_l_choices" "_law_l_choices" s__law_l_choices A.a__law_l_choices A.fd__law_l_choices
  b__law_l_choices : L2.Binds K A.fd__law_l_choices ["dice"] []
  g__law_l_wide : mg "_law_l_wide" = some (.ref A.a__law_l_wide)
  F__law_l_wide : Fun K "_law_l_wide" "_law_l_wide" s__law_l_wide A.a__law_l_wide A.fd__law_l_wide
  b__law_l_wide : L2.Binds K A.fd__law_l_wide ["dice"] []
  g__law_l_ends : mg "_law_l_ends" = some (.ref A.a__law_l_ends)
  F__law_l_ends : Fun K "_law_l_ends" "_law_l_ends" s__law_l_ends A.a__law_l_ends A.fd__law_l_ends
  b__law_l_ends : L2.Binds K A.fd__law_l_ends ["crews", "work", "times"] []
  g__law_l_told : mg "_law_l_told" = some (.ref A.a__law_l_told)
  F__law_l_told : Fun K "_law_l_told" "_law_l_told" s__law_l_told A.a__law_l_told A.fd__law_l_told
  b__law_l_told : L2.Binds K A.fd__law_l_told ["every", "tick"] []
  g__law_l_delay : mg "_law_l_delay" = some (.ref A.a__law_l_delay)
  F__law_l_delay : Fun K "_law_l_delay" "_law_l_delay" s__law_l_delay A.a__law_l_delay A.fd__law_l_delay
  b__law_l_delay : L2.Binds K A.fd__law_l_delay ["own", "many"] []
  g__law_is_due : mg "_law_is_due" = some (.ref A.a__law_is_due)
  F__law_is_due : Fun K "_law_is_due" "_law_is_due" s__law_is_due A.a__law_is_due A.fd__law_is_due
  b__law_is_due : L2.Binds K A.fd__law_is_due ["own", "ticks", "value"] []
  g__law_near : mg "_law_near" = some (.ref A.a__law_near)
  F__law_near : Fun K "_law_near" "_law_near" s__law_near A.a__law_near A.fd__law_near
  b__law_near : L2.Binds K A.fd__law_near ["dice", "value"] []
  g__law_refuses : mg "_law_refuses" = some (.ref A.a__law_refuses)
  F__law_refuses : FunC K "_law_refuses" "_law_refuses" s__law_refuses A.a__law_refuses A.fd__law_refuses A.c__law_refuses
  b__law_refuses : L2.Binds K A.fd__law_refuses ["dice", "own"] []
  g__law_right : mg "_law_right" = some (.ref A.a__law_right)
  F__law_right : Fun K "_law_right" "_law_right" s__law_right A.a__law_right A.fd__law_right
  b__law_right : L2.Binds K A.fd__law_right ["dice"] []
  g_law : mg "law" = some (.ref A.a_law)
  F_law : Fun K "law" "law" s_law A.a_law A.fd_law
  b_law : L2.Binds K A.fd_law ["script"] []
  kw_waiting_0_ticks_gap_burst_every_work_crews : KwB K A.fd_waiting ["crews", "work", "every", "burst", "gap", "ticks"] ["ticks", "gap", "burst", "every", "work", "crews"] 0 [5, 4, 3, 2, 1, 0]
  kw_is_waiting_6_value : KwB K A.fd_is_waiting ["crews", "work", "every", "burst", "gap", "ticks", "value"] ["value"] 6 [0, 1, 2, 3, 4, 5, 6]
  c_MOST_BURST : mg "MOST_BURST" = some A.v_MOST_BURST
  r_MOST_BURST : RelV (.int 6) A.v_MOST_BURST
  c_MOST_GAP : mg "MOST_GAP" = some A.v_MOST_GAP
  r_MOST_GAP : RelV (.int 12) A.v_MOST_GAP
  c_MOST_TICK : mg "MOST_TICK" = some A.v_MOST_TICK
  r_MOST_TICK : RelV (.int 10000) A.v_MOST_TICK
  c_MOST_WORK : mg "MOST_WORK" = some A.v_MOST_WORK
  r_MOST_WORK : RelV (.int 12) A.v_MOST_WORK
  c_MOST_EVERY : mg "MOST_EVERY" = some A.v_MOST_EVERY
  r_MOST_EVERY : RelV (.int 12) A.v_MOST_EVERY
  c_MOST_ASKED : mg "MOST_ASKED" = some A.v_MOST_ASKED
  r_MOST_ASKED : RelV (.int 120) A.v_MOST_ASKED
  c_MOST_TIMES : mg "MOST_TIMES" = some A.v_MOST_TIMES
  r_MOST_TIMES : RelV (.int 1000) A.v_MOST_TIMES
  c_MOST_WAITING : mg "MOST_WAITING" = some A.v_MOST_WAITING
  r_MOST_WAITING : RelV (.int 600) A.v_MOST_WAITING
  c_MOST_CREWS : mg "MOST_CREWS" = some A.v_MOST_CREWS
  r_MOST_CREWS : RelV (.int 4) A.v_MOST_CREWS
structure TBs (base : Heap) (mg : Str → Option Value) (A : Ad) : Prop where
  _law_refuses : TabB base mg A.c__law_refuses A.p__law_refuses
structure Dif (A : Ad) : Prop where
  d : A.T.Pairwise fun x y => x.1 ≠ y.1
section
variable {P : Program} {w : World} {K : PySem.W.Frag} {mg : Str → Option Value} {base : Heap} {A : Ad}
theorem ok_is_integer (T : Tx P K mg A) (TBs : TBs base mg A ∧ Dif A) : FnOk P w K mg base (L2.CX P w) 1 A.a_is_integer A.fd_is_integer ["value"] (spF K (R_is_integer K A.C A.T)) := by
  refine T.F_is_integer.okX sc_is_integer (fun vs H Q E h => spf_len (by rintro _ _ ⟨⟩ <;> rfl) h) (fun cdv Ar outer s H vs Q E hr h => ⟨t_is_integer K A.C A.T E, ?_, ?_⟩)
  · exact (pss_one (ps_ret (pe_and (pe_callB call_isi (by rfl) T.n_isinstance (by decide +kernel) (pa_cons (pv 0) (pa_cons (pe_bltn (v := .ty "int") (by rfl) T.n_int (by decide +kernel) rfl) pa_nil))) (pe_one (pe_not (pe_callB call_isi (by rfl) T.n_isinstance (by decide +kernel) (pa_cons (pv 0) (pa_cons (pe_bltn (v := .ty "bool") (by rfl) T.n_bool (by decide +kernel) rfl) pa_nil))))))))
  · refine run_bodyS (n := 1) (by decide) (by rintro _ _ ⟨⟩ <;> rfl) h fun s o hR hv hE => ?_
    obtain ⟨v0, rfl⟩ := len1 hv
    cases hR with
    | mk h => exact ⟨_, rd_is_integer h, .rt (Lv.leave (by walk_at "lv") rfl)⟩
theorem ok_is_in (T : Tx P K mg A) (TBs : TBs base mg A ∧ Dif A) : FnOk P w K mg base (L2.CX P w) 2 A.a_is_in A.fd_is_in ["value", "low", "high"] (spF K (R_is_in K A.C A.T)) := by
  refine T.F_is_in.okX sc_is_in (fun vs H Q E h => spf_len (by rintro _ _ ⟨⟩ <;> rfl) h) (fun cdv Ar outer s H vs Q E hr h => ⟨t_is_in K A.C A.T E, ?_, ?_⟩)
  · exact (pss_one (ps_ret (pe_and (pe_call (ok_is_integer T TBs) (hr.mono (by decide)) (by rfl) T.g_is_integer T.F_is_integer.kp T.b_is_integer .nil (pass_e (takes_of rfl rfl rfl rfl)) (pa_cons (pv 0) pa_nil)) (pe_one (pe_chain op_leU op_leU (pv 1) (pv 0) (pv 2))))))
  · refine run_bodyS (n := 3) (by decide) (by rintro _ _ ⟨⟩ <;> rfl) h fun s o hR hv hE => ?_
    obtain ⟨v0, v1, v2, rfl⟩ := len3 hv
    cases hR with
    | mk h => exact ⟨_, rd_is_in h, .rt (Lv.leave (by walk_at "lv") rfl)⟩
theorem ok_is_tick (T : Tx P K mg A) (TBs : TBs base mg A ∧ Dif A) : FnOk P w K mg base (L2.CX P w) 3 A.a_is_tick A.fd_is_tick ["value"] (spF K (R_is_tick K A.C A.T)) := by
  refine T.F_is_tick.okX sc_is_tick (fun vs H Q E h => spf_len (by rintro _ _ ⟨⟩ <;> rfl) h) (fun cdv Ar outer s H vs Q E hr h => ⟨t_is_tick K A.C A.T E, ?_, ?_⟩)
  · exact (pss_one (ps_ret (pe_call (ok_is_in T TBs) (hr.mono (by decide)) (by rfl) T.g_is_in T.F_is_in.kp T.b_is_in .nil (pass_e (takes_of rfl rfl rfl rfl)) (pa_cons (pv 0) (pa_cons pe_int (pa_cons (pe_glob (by rfl) T.c_MOST_TICK T.r_MOST_TICK) pa_nil))))))
  · refine run_bodyS (n := 1) (by decide) (by rintro _ _ ⟨⟩ <;> rfl) h fun s o hR hv hE => ?_
    obtain ⟨v0, rfl⟩ := len1 hv
    cases hR with
    | mk h => exact ⟨_, rd_is_tick h, .rt (Lv.leave (by walk_at "lv") rfl)⟩
theorem ok_are_at_most (T : Tx P K mg A) (TBs : TBs base mg A ∧ Dif A) : FnOk P w K mg base (L2.CX P w) 1 A.a_are_at_most A.fd_are_at_most ["value", "many"] (spF K (R_are_at_most K A.C A.T)) := by
  refine T.F_are_at_most.okX sc_are_at_most (fun vs H Q E h => spf_len (by rintro _ _ ⟨⟩ <;> rfl) h) (fun cdv Ar outer s H vs Q E hr h => ⟨t_are_at_most K A.C A.T E, ?_, ?_⟩)
  · exact (pss_one (ps_ret (pe_and (pe_callB call_isi (by rfl) T.n_isinstance (by decide +kernel) (pa_cons (pv 0) (pa_cons (pe_bltn (v := .ty "tuple") (by rfl) T.n_tuple (by decide +kernel) rfl) pa_nil))) (pe_one (pe_cmpR op_leU (pe_callB call_lenU (by rfl) T.n_len (by decide +kernel) (pa_cons (pv 0) pa_nil)) (pv 1) (nomark _))))))
  · refine run_bodyS (n := 2) (by decide) (by rintro _ _ ⟨⟩ <;> rfl) h fun s o hR hv hE => ?_
    obtain ⟨v0, v1, rfl⟩ := len2 hv
    cases hR with
    | mk h => exact ⟨_, rd_are_at_most h, .rt (Lv.leave (by walk_at "lv") rfl)⟩
theorem ok_demand (T : Tx P K mg A) (TBs : TBs base mg A ∧ Dif A) : FnOk P w K mg base (L2.CX P w) 1 A.a_demand A.fd_demand ["is_good", "name"] (spF K (R_demand K A.C A.T)) := by
  refine T.F_demand.okX sc_demand (fun vs H Q E h => spf_len (by rintro _ _ ⟨⟩ <;> rfl) h) (fun cdv Ar outer s H vs Q E hr h => ⟨t_demand K A.C A.T E, ?_, ?_⟩)
  · exact (pss_one (ps_if (pt_not (pt_val (pv 0))) (pss_one (BX.ps_raiseX rfl T.x_BadArgument hr (takes_of rfl rfl rfl rfl) (pa_cons (pv 1) pa_nil))) pss_nil))
  · refine run_bodyS (n := 2) (by decide) (by rintro _ _ ⟨⟩ <;> rfl) h fun s o hR hv hE => ?_
    obtain ⟨v0, v1, rfl⟩ := len2 hv
    cases hR with
    | ok h => exact ⟨_, rd_demand_ok h, .nx (Lv.leave (by walk_at "lv") rfl)⟩
    | no h => exact ⟨_, rd_demand_no h, .ex (Lv.leave (by walk_at "lv") rfl)⟩
theorem ok_are_times (T : Tx P K mg A) (TBs : TBs base mg A ∧ Dif A) : FnOk P w K mg base (L2.CX P w) 4 A.a_are_times A.fd_are_times ["value"] (spF K (R_are_times K A.C A.T)) := by
  refine T.F_are_times.okX sc_are_times (fun vs H Q E h => spf_len (by rintro _ _ ⟨⟩ <;> rfl) h) (fun cdv Ar outer s H vs Q E hr h => ⟨t_are_times K A.C A.T E, ?_, ?_⟩)
  · exact (pss_cons (ps_if (PW.pt (pw_or (pt_not (pt_val (pe_call (ok_are_at_most T TBs) (hr.mono (by decide)) (by rfl) T.g_are_at_most T.F_are_at_most.kp T.b_are_at_most .nil (pass_e (takes_of rfl rfl rfl rfl)) (pa_cons (pv 0) (pa_cons (pe_glob (by rfl) T.c_MOST_TIMES T.r_MOST_TIMES) pa_nil))))) (pw_or1 (pt_not (pt_val (pe_callB (call_allU rfl) (by rfl) T.n_all (by decide +kernel) (pa_cons (pe_lc (own := [("tick", 3)]) rfl sc_are_times.nd (pi_seqU (pv 0)) (blkOk_by (own := [("tick", 3)]) (N := ["value", "one", "two", "tick"]) (sc := defScope s_are_times) (by decide +kernel)) (fun _ _ _ _ _ => (pg_name (i := 3) sc_are_times.nd rfl (Or.inl rfl))) (fun _ _ _ _ _ => pts_nil) (fun _ _ _ _ _ => (pe_call (ok_is_tick T TBs) (hr.mono (by decide)) (by rfl) T.g_is_tick T.F_is_tick.kp T.b_is_tick .nil passL (pa_cons (pv 3) pa_nil)))) pa_nil))))))) (pss_one (ps_ret pe_bl)) pss_nil)
      (pss_one (ps_ret (pe_callB (call_allU rfl) (by rfl) T.n_all (by decide +kernel) (pa_cons (pe_lc (own := [("one", 1), ("two", 2)]) rfl sc_are_times.nd (pi_zipU (by rfl) T.n_zip (pa_cons (pv 0) (pa_cons (pe_slice sl_U (pv 0) (po_some pe_int) po_none) pa_nil))) (blkOk_by (own := [("one", 1), ("two", 2)]) (N := ["value", "one", "two", "tick"]) (sc := defScope s_are_times) (by decide +kernel)) (fun _ _ _ _ _ => (pg_tup rfl (pgs_cons (pg_name (i := 1) sc_are_times.nd rfl (Or.inl rfl)) (pgs_cons (pg_name (i := 2) sc_are_times.nd rfl (Or.inl rfl)) pgs_nil)))) (fun _ _ _ _ _ => pts_nil) (fun _ _ _ _ _ => (pe_cmpR op_leU (pv 1) (pv 2) (nomark _)))) pa_nil)))))
  · refine run_bodyS (n := 1) (by decide) (by rintro _ _ ⟨⟩ <;> rfl) h fun s o hR hv hE => ?_
    obtain ⟨v0, rfl⟩ := len1 hv
    cases hR with
    | mk h h1 => exact ⟨_, rd_are_times h h1, .rt (Lv.leave (by walk_at "lv") rfl)⟩
theorem ok_serve (T : Tx P K mg A) (TBs : TBs base mg A ∧ Dif A) : FnOk P w K mg base (L2.CX P w) 1 A.a_serve A.fd_serve ["free", "work", "tick"] (spF K (R_serve K A.C A.T)) := by
  refine T.F_serve.okX sc_serve (fun vs H Q E h => spf_len (by rintro _ _ ⟨⟩ <;> rfl) h) (fun cdv Ar outer s H vs Q E hr h => ⟨t_serve K A.C A.T E, ?_, ?_⟩)
  · exact (pss_cons (ps_set (i := 3) sc_serve.nd rfl (by first | exact Or.inl rfl | exact Or.inr rfl) (pe_bm PySem.F.plainAttrs_list PySem.F.slot_list_index PySem.F.type_list_index (mt_indexD (hu65 hr)) (pv 0) (pa_cons (pe_callB (call_minU rfl) (by rfl) T.n_min (by decide +kernel) (pa_cons (pv 0) pa_nil)) pa_nil)))
      (pss_cons (ps_asg (pe_op op_addU (pe_callB (call_maxU rfl) (by rfl) T.n_max (by decide +kernel) (pa_cons (pe_ix ix_U (pv 0) (pv 3) (fun _ _ => rfl)) (pa_cons (pv 2) pa_nil))) (pv 1)) (pg_sub (pv 0) (pv 3) set_list))
      (pss_one (ps_ret (pe_ix ix_U (pv 0) (pv 3) (fun _ _ => rfl))))))
  · refine run_bodyS (n := 3) (by decide) (by rintro _ _ ⟨⟩ <;> rfl) h fun s o hR hv hE => ?_
    obtain ⟨v0, v1, v2, rfl⟩ := len3 hv
    cases hR with
    | mk h => obtain rfl := pin_at hE; exact ⟨_, rd_serve h, .rt (Lv.leave (by walk_at "lv") rfl)⟩
theorem ok_finish_all (T : Tx P K mg A) (TBs : TBs base mg A ∧ Dif A) : FnOk P w K mg base (L2.CX P w) 2 A.a_finish_all A.fd_finish_all ["crews", "work", "times"] (spF K (R_finish_all K A.C A.T)) := by
  refine T.F_finish_all.okX sc_finish_all (fun vs H Q E h => spf_len (by rintro _ _ ⟨⟩ <;> rfl) h) (fun cdv Ar outer s H vs Q E hr h => ⟨t_finish_all K A.C A.T E, ?_, ?_⟩)
  · exact (pss_cons (ps_set (i := 3) sc_finish_all.nd rfl (by first | exact Or.inl rfl | exact Or.inr rfl) (pe_lc (own := [("crew", 4)]) rfl sc_finish_all.nd (pi_range1 (by rfl) T.n_range (pa_cons (pv 0) pa_nil)) (blkOk_by (own := [("crew", 4)]) (N := ["crews", "work", "times", "free", "crew", "tick"]) (sc := defScope s_finish_all) (by decide +kernel)) (fun _ _ _ _ _ => (pg_name (i := 4) sc_finish_all.nd rfl (Or.inl rfl))) (fun _ _ _ _ _ => pts_nil) (fun _ _ _ _ _ => pe_int)))
      (pss_one (ps_ret (pe_lc (own := [("tick", 5)]) rfl sc_finish_all.nd (pi_seqU (pv 2)) (blkOk_by (own := [("tick", 5)]) (N := ["crews", "work", "times", "free", "crew", "tick"]) (sc := defScope s_finish_all) (by decide +kernel)) (fun _ _ _ _ _ => (pg_name (i := 5) sc_finish_all.nd rfl (Or.inl rfl))) (fun _ _ _ _ _ => pts_nil) (fun _ _ _ _ _ => (pe_call (ok_serve T TBs) (hr.mono (by decide)) (by rfl) T.g_serve T.F_serve.kp T.b_serve .nil passL (pa_cons (pv 3) (pa_cons (pv 1) (pa_cons (pv 5) pa_nil)))))))))
  · refine run_bodyS (n := 3) (by decide) (by rintro _ _ ⟨⟩ <;> rfl) h fun s o hR hv hE => ?_
    obtain ⟨v0, v1, v2, rfl⟩ := len3 hv
    cases hR with
    | mk h h1 h2 h3 => exact ⟨_, rd_finish_all h h1 h2 h3, .rt (Lv.leave (by walk_at "lv") rfl)⟩
theorem ok_read_at (T : Tx P K mg A) (TBs : TBs base mg A ∧ Dif A) : FnOk P w K mg base (L2.CX P w) 1 A.a_read_at A.fd_read_at ["every", "tick"] (spF K (R_read_at K A.C A.T)) := by
  refine T.F_read_at.okX sc_read_at (fun vs H Q E h => spf_len (by rintro _ _ ⟨⟩ <;> rfl) h) (fun cdv Ar outer s H vs Q E hr h => ⟨t_read_at K A.C A.T E, ?_, ?_⟩)
  · exact (pss_one (ps_ret (pe_op op_mulV (pe_un un_negU (pe_op op_divU (pe_un un_negU (pv 1)) (pv 0))) (pv 0))))
  · refine run_bodyS (n := 2) (by decide) (by rintro _ _ ⟨⟩ <;> rfl) h fun s o hR hv hE => ?_
    obtain ⟨v0, v1, rfl⟩ := len2 hv
    cases hR with
    | mk h h1 => exact ⟨_, rd_read_at h h1, .rt (Lv.leave (by walk_at "lv") rfl)⟩
theorem ok_are_kept (T : Tx P K mg A) (TBs : TBs base mg A ∧ Dif A) : FnOk P w K mg base (L2.CX P w) 1 A.a_are_kept A.fd_are_kept ["burst", "gap", "times"] (spF K (R_are_kept K A.C A.T)) := by
  refine T.F_are_kept.okX sc_are_kept (fun vs H Q E h => spf_len (by rintro _ _ ⟨⟩ <;> rfl) h) (fun cdv Ar outer s H vs Q E hr h => ⟨t_are_kept K A.C A.T E, ?_, ?_⟩)
  · exact (pss_cons (ps_for (passes_of rfl) rfl (pi_range1 (by rfl) T.n_range (pa_cons (pe_callB call_lenU (by rfl) T.n_len (by decide +kernel) (pa_cons (pv 2) pa_nil)) pa_nil)) (pg_name (i := 3) sc_are_kept.nd rfl (by first | exact Or.inl rfl | exact Or.inr rfl)) (pss_one (ps_for (passes_of rfl) rfl (pi_range2 (by rfl) T.n_range (pa_cons (pe_op op_addU (pv 3) (pv 0)) (pa_cons (pe_callB call_lenU (by rfl) T.n_len (by decide +kernel) (pa_cons (pv 2) pa_nil)) pa_nil))) (pg_name (i := 4) sc_are_kept.nd rfl (by first | exact Or.inl rfl | exact Or.inr rfl)) (pss_one (ps_if (pt_cmpR (op_ltU hr.units0) (pe_op op_subU (pe_ix ix_U (pv 2) (pv 4) (fun _ _ => rfl)) (pe_ix ix_U (pv 2) (pv 3) (fun _ _ => rfl))) (pe_op op_mulV (pe_op op_subU (pe_op op_addU (pe_op op_subU (pv 4) (pv 3)) pe_int) (pv 0)) (pv 1)) (nomark _)) (pss_one (ps_ret pe_bl)) pss_nil)))))
      (pss_one (ps_ret pe_bl)))
  · refine run_bodyS (n := 3) (by decide) (by rintro _ _ ⟨⟩ <;> rfl) h fun s o hR hv hE => ?_
    obtain ⟨v0, v1, v2, rfl⟩ := len3 hv
    cases hR with
    | mk h0 h1 h2 h3 h4 => exact ⟨_, rd_are_kept h0 h1 h2 h3 h4, .rt (Lv.leave (by walk_at "lv") rfl)⟩
theorem ok_wait_all (T : Tx P K mg A) (TBs : TBs base mg A ∧ Dif A) : FnOk P w K mg base (L2.CX P w) 3 A.a_wait_all A.fd_wait_all ["crews", "work", "every", "times"] (spF K (R_wait_all K A.C A.T)) := by
  refine T.F_wait_all.okX sc_wait_all (fun vs H Q E h => spf_len (by rintro _ _ ⟨⟩ <;> rfl) h) (fun cdv Ar outer s H vs Q E hr h => ⟨t_wait_all K A.C A.T E, ?_, ?_⟩)
  · exact (pss_cons (ps_set (i := 4) sc_wait_all.nd rfl (by first | exact Or.inl rfl | exact Or.inr rfl) (pe_call (ok_finish_all T TBs) (hr.mono (by decide)) (by rfl) T.g_finish_all T.F_finish_all.kp T.b_finish_all .nil (pass_e (takes_of rfl rfl rfl rfl)) (pa_cons (pv 0) (pa_cons (pv 1) (pa_cons (pe_lc (own := [("tick", 6)]) rfl sc_wait_all.nd (pi_seqU (pv 3)) (blkOk_by (own := [("tick", 6)]) (N := ["crews", "work", "every", "times", "ends", "end", "tick"]) (sc := defScope s_wait_all) (by decide +kernel)) (fun _ _ _ _ _ => (pg_name (i := 6) sc_wait_all.nd rfl (Or.inl rfl))) (fun _ _ _ _ _ => pts_nil) (fun _ _ _ _ _ => (pe_call (ok_read_at T TBs) (hr.mono (by decide)) (by rfl) T.g_read_at T.F_read_at.kp T.b_read_at .nil passL (pa_cons (pv 2) (pa_cons (pv 6) pa_nil))))) pa_nil)))))
      (pss_one (ps_ret (pe_lc (own := [("end", 5), ("tick", 6)]) rfl sc_wait_all.nd (pi_zipU (by rfl) T.n_zip (pa_cons (pv 4) (pa_cons (pv 3) pa_nil))) (blkOk_by (own := [("end", 5), ("tick", 6)]) (N := ["crews", "work", "every", "times", "ends", "end", "tick"]) (sc := defScope s_wait_all) (by decide +kernel)) (fun _ _ _ _ _ => (pg_tup rfl (pgs_cons (pg_name (i := 5) sc_wait_all.nd rfl (Or.inl rfl)) (pgs_cons (pg_name (i := 6) sc_wait_all.nd rfl (Or.inl rfl)) pgs_nil)))) (fun _ _ _ _ _ => pts_nil) (fun _ _ _ _ _ => (pe_op op_subU (pv 5) (pv 6)))))))
  · refine run_bodyS (n := 4) (by decide) (by rintro _ _ ⟨⟩ <;> rfl) h fun s o hR hv hE => ?_
    obtain ⟨v0, v1, v2, v3, rfl⟩ := len4 hv
    cases hR with
    | mk h h1 h2 h3 h4 h5 => exact ⟨_, rd_wait_all h h1 h2 h3 h4 h5, .rt (Lv.leave (by walk_at "lv") rfl)⟩
theorem ok_period_of (T : Tx P K mg A) (TBs : TBs base mg A ∧ Dif A) : FnOk P w K mg base (L2.CX P w) 1 A.a_period_of A.fd_period_of ["every", "gap"] (spF K (R_period_of K A.C A.T)) := by
  refine T.F_period_of.okX sc_period_of (fun vs H Q E h => spf_len (by rintro _ _ ⟨⟩ <;> rfl) h) (fun cdv Ar outer s H vs Q E hr h => ⟨t_period_of K A.C A.T E, ?_, ?_⟩)
  · exact (pss_cons (ps_set (i := 2) sc_period_of.nd rfl (by first | exact Or.inl rfl | exact Or.inr rfl) (pv 1))
      (pss_cons (ps_while (passes_of rfl) (pt_cmpR (op_neU hr.units) (pe_op op_modU (pv 2) (pv 0)) pe_int (nomark _)) (pss_one (ps_aug (i := 2) sc_period_of.nd rfl (by first | exact Or.inl rfl | exact Or.inr rfl) (pv 1) ip_add)))
      (pss_one (ps_ret (pv 2)))))
  · refine run_bodyS (n := 2) (by decide) (by rintro _ _ ⟨⟩ <;> rfl) h fun s o hR hv hE => ?_
    obtain ⟨v0, v1, rfl⟩ := len2 hv
    cases hR with
    | mk h0 h1 h2 h3 => exact ⟨_, rd_period_of h0 h1 h2 h3, .rt (Lv.leave (by walk_at "lv") rfl)⟩
theorem ok_lead_period (T : Tx P K mg A) (TBs : TBs base mg A ∧ Dif A) : FnOk P w K mg base (L2.CX P w) 2 A.a_lead_period A.fd_lead_period ["free", "work", "every", "gap", "start"] (spF K (R_lead_period K A.C A.T)) := by
  refine T.F_lead_period.okX sc_lead_period (fun vs H Q E h => spf_len (by rintro _ _ ⟨⟩ <;> rfl) h) (fun cdv Ar outer s H vs Q E hr h => ⟨t_lead_period K A.C A.T E, ?_, ?_⟩)
  · exact (pss_cons (ps_set (i := 5) sc_lead_period.nd rfl (by first | exact Or.inl rfl | exact Or.inr rfl) (pe_call (ok_period_of T TBs) (hr.mono (by decide)) (by rfl) T.g_period_of T.F_period_of.kp T.b_period_of .nil (pass_e (takes_of rfl rfl rfl rfl)) (pa_cons (pv 2) (pa_cons (pv 3) pa_nil))))
      (pss_cons (ps_set (i := 6) sc_lead_period.nd rfl (by first | exact Or.inl rfl | exact Or.inr rfl) (pe_callTy call_listU (by rfl) T.n_list (by decide +kernel) (pa_cons (pv 0) pa_nil)))
      (pss_cons (ps_for (passes_of rfl) rfl (pi_range3 (by rfl) T.n_range (pa_cons (pv 4) (pa_cons (pe_op op_addU (pv 4) (pv 5)) (pa_cons (pv 3) pa_nil)))) (pg_name (i := 7) sc_lead_period.nd rfl (by first | exact Or.inl rfl | exact Or.inr rfl)) (pss_one (ps_expr (pe_call (ok_serve T TBs) (hr.mono (by decide)) (by rfl) T.g_serve T.F_serve.kp T.b_serve .nil (pass_e (takes_of rfl rfl rfl rfl)) (pa_cons (pv 6) (pa_cons (pv 1) (pa_cons (pe_call (ok_read_at T TBs) (hr.mono (by decide)) (by rfl) T.g_read_at T.F_read_at.kp T.b_read_at .nil (pass_e (takes_of rfl rfl rfl rfl)) (pa_cons (pv 2) (pa_cons (pv 7) pa_nil))) pa_nil)))))))
      (pss_one (ps_ret (pe_callB call_sortV (by rfl) T.n_sorted (by decide +kernel) (pa_cons (pe_lc (own := [("tick", 7)]) rfl sc_lead_period.nd (pi_seqU (pv 6)) (blkOk_by (own := [("tick", 7)]) (N := ["free", "work", "every", "gap", "start", "period", "after", "tick"]) (sc := defScope s_lead_period) (by decide +kernel)) (fun _ _ _ _ _ => (pg_name (i := 7) sc_lead_period.nd rfl (Or.inl rfl))) (fun _ _ _ _ _ => pts_nil) (fun _ _ _ _ _ => (pe_callB (call_maxU rfl) (by rfl) T.n_max (by decide +kernel) (pa_cons (pv 4) (pa_cons (pe_op op_subU (pv 7) (pv 5)) pa_nil))))) pa_nil)))))))
  · refine run_bodyS (n := 5) (by decide) (by rintro _ _ ⟨⟩ <;> rfl) h fun s o hR hv hE => ?_
    obtain ⟨v0, v1, v2, v3, v4, rfl⟩ := len5 hv
    cases hR with
    | mk h0 h1 h2 h3 h4 h5 h6 h7 => obtain rfl := pin_at hE; exact ⟨_, rd_lead_period h0 h1 h2 h3 h4 h5 h6 h7, .ro (Lv.leave (by walk_at "lv") rfl)⟩
theorem ok_busy_at (T : Tx P K mg A) (TBs : TBs base mg A ∧ Dif A) : FnOk P w K mg base (L2.CX P w) 3 A.a_busy_at A.fd_busy_at ["crews", "work", "every", "gap", "start"] (spF K (R_busy_at K A.C A.T)) := by
  refine T.F_busy_at.okX sc_busy_at (fun vs H Q E h => spf_len (by rintro _ _ ⟨⟩ <;> rfl) h) (fun cdv Ar outer s H vs Q E hr h => ⟨t_busy_at K A.C A.T E, ?_, ?_⟩)
  · exact (pss_cons (ps_setLc (i := 5) (own := [("crew", 7)]) rfl sc_busy_at.nd rfl rfl (sw_true rfl rfl rfl (by decide +kernel)) (pi_range1 (by rfl) T.n_range (pa_cons (pv 0) pa_nil)) (blkOk_by (own := [("crew", 7)]) (N := ["crews", "work", "every", "gap", "start", "free", "after", "crew"]) (sc := defScope s_busy_at) (by decide +kernel)) (fun _ _ _ _ _ => (pg_name (i := 7) sc_busy_at.nd rfl (Or.inl rfl))) (fun _ _ _ _ _ => pts_nil) (fun _ _ _ _ _ => (pv 4)))
      (pss_one (ps_while (passes_of rfl) (pt_val pe_bl) (pss_cons (ps_set (i := 6) sc_busy_at.nd rfl (by first | exact Or.inl rfl | exact Or.inr rfl) (pe_call (ok_lead_period T TBs) (hr.mono (by decide)) (by rfl) T.g_lead_period T.F_lead_period.kp T.b_lead_period .nil (pass_e (takes_of rfl rfl rfl rfl)) (pa_cons (pv 5) (pa_cons (pv 1) (pa_cons (pv 2) (pa_cons (pv 3) (pa_cons (pv 4) pa_nil)))))))
      (pss_cons (ps_if (pt_cmpR (op_eqU hr.units) (pv 6) (pv 5) (nomark _)) (pss_one (ps_ret (pv 5))) pss_nil)
      (pss_one (ps_set (i := 5) sc_busy_at.nd rfl (by first | exact Or.inl rfl | exact Or.inr rfl) (pv 6))))))))
  · refine run_bodyS (n := 5) (by decide) (by rintro _ _ ⟨⟩ <;> rfl) h fun s o hR hv hE => ?_
    obtain ⟨v0, v1, v2, v3, v4, rfl⟩ := len5 hv
    cases hR with
    | mk h0 h1 h2 h3 h4 h5 h6 h7 h8 h9 => exact ⟨_, rd_busy_at h0 h1 h2 h3 h4 h5 h6 h7 h8 h9, .ro (Lv.leave (by walk_at "lv") rfl)⟩
theorem ok_burst_wait (T : Tx P K mg A) (TBs : TBs base mg A ∧ Dif A) : FnOk P w K mg base (L2.CX P w) 4 A.a_burst_wait A.fd_burst_wait ["crews", "work", "every", "gap", "many", "start"] (spF K (R_burst_wait K A.C A.T)) := by
  refine T.F_burst_wait.okX sc_burst_wait (fun vs H Q E h => spf_len (by rintro _ _ ⟨⟩ <;> rfl) h) (fun cdv Ar outer s H vs Q E hr h => ⟨t_burst_wait K A.C A.T E, ?_, ?_⟩)
  · exact (pss_cons (ps_set (i := 6) sc_burst_wait.nd rfl (by first | exact Or.inl rfl | exact Or.inr rfl) (pe_call (ok_busy_at T TBs) (hr.mono (by decide)) (by rfl) T.g_busy_at T.F_busy_at.kp T.b_busy_at .nil (pass_e (takes_of rfl rfl rfl rfl)) (pa_cons (pv 0) (pa_cons (pv 1) (pa_cons (pv 2) (pa_cons (pv 3) (pa_cons (pv 5) pa_nil)))))))
      (pss_cons (ps_for (passes_of rfl) rfl (pi_range1 (by rfl) T.n_range (pa_cons (pv 4) pa_nil)) (pg_name (i := 7) sc_burst_wait.nd rfl (by first | exact Or.inl rfl | exact Or.inr rfl)) (pss_one (ps_set (i := 8) sc_burst_wait.nd rfl (by first | exact Or.inl rfl | exact Or.inr rfl) (pe_call (ok_serve T TBs) (hr.mono (by decide)) (by rfl) T.g_serve T.F_serve.kp T.b_serve .nil (pass_e (takes_of rfl rfl rfl rfl)) (pa_cons (pv 6) (pa_cons (pv 1) (pa_cons (pe_call (ok_read_at T TBs) (hr.mono (by decide)) (by rfl) T.g_read_at T.F_read_at.kp T.b_read_at .nil (pass_e (takes_of rfl rfl rfl rfl)) (pa_cons (pv 2) (pa_cons (pv 5) pa_nil))) pa_nil)))))))
      (pss_one (ps_ret (pe_op op_subU (pv 8) (pv 5))))))
  · refine run_bodyS (n := 6) (by decide) (by rintro _ _ ⟨⟩ <;> rfl) h fun s o hR hv hE => ?_
    obtain ⟨v0, v1, v2, v3, v4, v5, rfl⟩ := len6 hv
    cases hR with
    | mk h0 h1 h2 h3 h4 h5 h6 h7 h8 h9 h10 h11 => exact ⟨_, rd_burst_wait h0 h1 h2 h3 h4 h5 h6 h7 h8 h9 h10 h11, .rt (Lv.leave (by walk_at "lv") rfl)⟩
theorem ok_delay_of (T : Tx P K mg A) (TBs : TBs base mg A ∧ Dif A) : FnOk P w K mg base (L2.CX P w) 5 A.a_delay_of A.fd_delay_of ["crews", "work", "every", "gap", "many"] (spF K (R_delay_of K A.C A.T)) := by
  refine T.F_delay_of.okX sc_delay_of (fun vs H Q E h => spf_len (by rintro _ _ ⟨⟩ <;> rfl) h) (fun cdv Ar outer s H vs Q E hr h => ⟨t_delay_of K A.C A.T E, ?_, ?_⟩)
  · exact (pss_cons (ps_if (pt_cmpR (op_ltU hr.units0) (pe_op op_mulV (pv 0) (pv 3)) (pv 1) (nomark _)) (pss_one (ps_ret pe_non)) pss_nil)
      (pss_one (ps_ret (pe_callB (call_maxU rfl) (by rfl) T.n_max (by decide +kernel) (pa_cons (pe_lc (own := [("start", 5)]) rfl sc_delay_of.nd (pi_range1 (by rfl) T.n_range (pa_cons (pv 2) pa_nil)) (blkOk_by (own := [("start", 5)]) (N := ["crews", "work", "every", "gap", "many", "start"]) (sc := defScope s_delay_of) (by decide +kernel)) (fun _ _ _ _ _ => (pg_name (i := 5) sc_delay_of.nd rfl (Or.inl rfl))) (fun _ _ _ _ _ => pts_nil) (fun _ _ _ _ _ => (pe_call (ok_burst_wait T TBs) (hr.mono (by decide)) (by rfl) T.g_burst_wait T.F_burst_wait.kp T.b_burst_wait .nil passL (pa_cons (pv 0) (pa_cons (pv 1) (pa_cons (pv 2) (pa_cons (pv 3) (pa_cons (pv 4) (pa_cons (pv 5) pa_nil))))))))) pa_nil)))))
  · refine run_bodyS (n := 5) (by decide) (by rintro _ _ ⟨⟩ <;> rfl) h fun s o hR hv hE => ?_
    obtain ⟨v0, v1, v2, v3, v4, rfl⟩ := len5 hv
    cases hR with
    | mk h0 h1 h2 h3 h4 h5 h6 h7 h8 => exact ⟨_, rd_delay_of h0 h1 h2 h3 h4 h5 h6 h7 h8, .rt (Lv.leave (by walk_at "lv") rfl)⟩
theorem ok_demand_all (T : Tx P K mg A) (TBs : TBs base mg A ∧ Dif A) : FnOk P w K mg base (L2.CX P w) 3 A.a_demand_all A.fd_demand_all ["crews", "work", "every", "burst", "gap"] (spF K (R_demand_all K A.C A.T)) := by
  refine T.F_demand_all.okX sc_demand_all (fun vs H Q E h => spf_len (by rintro _ _ ⟨⟩ <;> rfl) h) (fun cdv Ar outer s H vs Q E hr h => ⟨t_demand_all K A.C A.T E, ?_, ?_⟩)
  · exact (pss_cons (ps_expr (pe_call (ok_demand T TBs) (hr.mono (by decide)) (by rfl) T.g_demand T.F_demand.kp T.b_demand .nil (pass_e (takes_of rfl rfl rfl rfl)) (pa_cons (pe_call (ok_is_in T TBs) (hr.mono (by decide)) (by rfl) T.g_is_in T.F_is_in.kp T.b_is_in .nil (pass_e (takes_of rfl rfl rfl rfl)) (pa_cons (pv 0) (pa_cons pe_int (pa_cons (pe_glob (by rfl) T.c_MOST_CREWS T.r_MOST_CREWS) pa_nil)))) (pa_cons pe_str pa_nil))))
      (pss_cons (ps_expr (pe_call (ok_demand T TBs) (hr.mono (by decide)) (by rfl) T.g_demand T.F_demand.kp T.b_demand .nil (pass_e (takes_of rfl rfl rfl rfl)) (pa_cons (pe_call (ok_is_in T TBs) (hr.mono (by decide)) (by rfl) T.g_is_in T.F_is_in.kp T.b_is_in .nil (pass_e (takes_of rfl rfl rfl rfl)) (pa_cons (pv 1) (pa_cons pe_int (pa_cons (pe_glob (by rfl) T.c_MOST_WORK T.r_MOST_WORK) pa_nil)))) (pa_cons pe_str pa_nil))))
      (pss_cons (ps_expr (pe_call (ok_demand T TBs) (hr.mono (by decide)) (by rfl) T.g_demand T.F_demand.kp T.b_demand .nil (pass_e (takes_of rfl rfl rfl rfl)) (pa_cons (pe_call (ok_is_in T TBs) (hr.mono (by decide)) (by rfl) T.g_is_in T.F_is_in.kp T.b_is_in .nil (pass_e (takes_of rfl rfl rfl rfl)) (pa_cons (pv 2) (pa_cons pe_int (pa_cons (pe_glob (by rfl) T.c_MOST_EVERY T.r_MOST_EVERY) pa_nil)))) (pa_cons pe_str pa_nil))))
      (pss_cons (ps_expr (pe_call (ok_demand T TBs) (hr.mono (by decide)) (by rfl) T.g_demand T.F_demand.kp T.b_demand .nil (pass_e (takes_of rfl rfl rfl rfl)) (pa_cons (pe_call (ok_is_in T TBs) (hr.mono (by decide)) (by rfl) T.g_is_in T.F_is_in.kp T.b_is_in .nil (pass_e (takes_of rfl rfl rfl rfl)) (pa_cons (pv 3) (pa_cons pe_int (pa_cons (pe_glob (by rfl) T.c_MOST_BURST T.r_MOST_BURST) pa_nil)))) (pa_cons pe_str pa_nil))))
      (pss_one (ps_expr (pe_call (ok_demand T TBs) (hr.mono (by decide)) (by rfl) T.g_demand T.F_demand.kp T.b_demand .nil (pass_e (takes_of rfl rfl rfl rfl)) (pa_cons (pe_call (ok_is_in T TBs) (hr.mono (by decide)) (by rfl) T.g_is_in T.F_is_in.kp T.b_is_in .nil (pass_e (takes_of rfl rfl rfl rfl)) (pa_cons (pv 4) (pa_cons pe_int (pa_cons (pe_glob (by rfl) T.c_MOST_GAP T.r_MOST_GAP) pa_nil)))) (pa_cons pe_str pa_nil)))))))))
  · refine run_bodyS (n := 5) (by decide) (by rintro _ _ ⟨⟩ <;> rfl) h fun s o hR hv hE => ?_
    obtain ⟨v0, v1, v2, v3, v4, rfl⟩ := len5 hv
    cases hR with
    | ok h0 h1 h2 h3 h4 h5 => exact ⟨_, rd_demand_all_ok h0 h1 h2 h3 h4 h5, .nx (Lv.leave (by walk_at "lv") rfl)⟩
    | no h0 h1 h2 h3 h4 h5 => exact ⟨_, rd_demand_all_no h0 h1 h2 h3 h4 h5, .ex (Lv.leave (by walk_at "lv") rfl)⟩
theorem ok_dark_of (T : Tx P K mg A) (TBs : TBs base mg A ∧ Dif A) : FnOk P w K mg base (L2.CX P w) 6 A.a_dark_of A.fd_dark_of ["crews", "work", "every", "burst", "gap", "lamps"] (spF K (R_dark_of K A.C A.T)) := by
  refine T.F_dark_of.okX sc_dark_of (fun vs H Q E h => spf_len (by rintro _ _ ⟨⟩ <;> rfl) h) (fun cdv Ar outer s H vs Q E hr h => ⟨t_dark_of K A.C A.T E, ?_, ?_⟩)
  · exact (pss_cons (ps_set (i := 6) sc_dark_of.nd rfl (by first | exact Or.inl rfl | exact Or.inr rfl) (pe_call (ok_delay_of T TBs) (hr.mono (by decide)) (by rfl) T.g_delay_of T.F_delay_of.kp T.b_delay_of .nil (pass_e (takes_of rfl rfl rfl rfl)) (pa_cons (pv 0) (pa_cons (pv 1) (pa_cons (pv 2) (pa_cons (pv 4) (pa_cons (pe_callB (call_maxU rfl) (by rfl) T.n_max (by decide +kernel) (pa_cons pe_int (pa_cons (pe_op op_addU (pe_op op_subU (pv 3) (pv 5)) pe_int) pa_nil))) pa_nil)))))))
      (pss_one (ps_ret (pe_ifExp (pt_cmpR op_isU (pv 6) pe_non (nomark _)) pe_non (pe_callB (call_maxU rfl) (by rfl) T.n_max (by decide +kernel) (pa_cons pe_int (pa_cons (pe_op op_subU (pv 6) (pe_op op_mulV (pe_callB (call_maxU rfl) (by rfl) T.n_max (by decide +kernel) (pa_cons pe_int (pa_cons (pe_op op_subU (pv 5) (pv 3)) pa_nil))) (pv 4))) pa_nil)))))))
  · refine run_bodyS (n := 6) (by decide) (by rintro _ _ ⟨⟩ <;> rfl) h fun s o hR hv hE => ?_
    obtain ⟨v0, v1, v2, v3, v4, v5, rfl⟩ := len6 hv
    cases hR with
    | mk h0 h1 h2 h3 h4 h5 => exact ⟨_, rd_dark_of h0 h1 h2 h3 h4 h5, .rt (Lv.leave (by walk_at "lv") rfl)⟩
theorem ok_times_ahead (T : Tx P K mg A) (TBs : TBs base mg A ∧ Dif A) : FnOk P w K mg base (L2.CX P w) 1 A.a_times_ahead A.fd_times_ahead ["every", "burst", "gap", "lamps", "singles", "phase"] (spF K (R_times_ahead K A.C A.T)) := by
  refine T.F_times_ahead.okX sc_times_ahead (fun vs H Q E h => spf_len (by rintro _ _ ⟨⟩ <;> rfl) h) (fun cdv Ar outer s H vs Q E hr h => ⟨t_times_ahead K A.C A.T E, ?_, ?_⟩)
  · exact (pss_cons (ps_set (i := 6) sc_times_ahead.nd rfl (by first | exact Or.inl rfl | exact Or.inr rfl) (pe_op op_mulV (pv 4) (pv 2)))
      (pss_cons (ps_aug (i := 6) sc_times_ahead.nd rfl (by first | exact Or.inl rfl | exact Or.inr rfl) (pe_op op_modU (pe_op op_subU (pv 5) (pv 6)) (pv 0)) ip_add)
      (pss_cons (ps_set (i := 7) sc_times_ahead.nd rfl (by first | exact Or.inl rfl | exact Or.inr rfl) (pe_op op_addU (pv 6) (pe_op op_mulV (pe_callB (call_maxU rfl) (by rfl) T.n_max (by decide +kernel) (pa_cons pe_int (pa_cons (pe_op op_subU (pv 3) (pv 1)) pa_nil))) (pv 2))))
      (pss_cons (ps_set (i := 8) sc_times_ahead.nd rfl (by first | exact Or.inl rfl | exact Or.inr rfl) (pe_op op_addU (pe_lc (own := [("at", 9)]) rfl sc_times_ahead.nd (pi_range1 (by rfl) T.n_range (pa_cons (pv 4) pa_nil)) (blkOk_by (own := [("at", 9)]) (N := ["every", "burst", "gap", "lamps", "singles", "phase", "first", "last", "found", "at"]) (sc := defScope s_times_ahead) (by decide +kernel)) (fun _ _ _ _ _ => (pg_name (i := 9) sc_times_ahead.nd rfl (Or.inl rfl))) (fun _ _ _ _ _ => pts_nil) (fun _ _ _ _ _ => (pe_op op_subU (pv 6) (pe_op op_mulV (pe_op op_subU (pv 4) (pv 9)) (pv 2))))) (pe_op op_repL (pe_lst (pa_cons (pv 6) pa_nil)) (pe_callB (call_maxU rfl) (by rfl) T.n_max (by decide +kernel) (pa_cons pe_int (pa_cons (pe_op op_subU (pv 1) (pv 3)) pa_nil))))))
      (pss_one (ps_ret (pe_op op_addU (pv 8) (pe_lc (own := [("at", 9)]) rfl sc_times_ahead.nd (pi_range1 (by rfl) T.n_range (pa_cons (pv 3) pa_nil)) (blkOk_by (own := [("at", 9)]) (N := ["every", "burst", "gap", "lamps", "singles", "phase", "first", "last", "found", "at"]) (sc := defScope s_times_ahead) (by decide +kernel)) (fun _ _ _ _ _ => (pg_name (i := 9) sc_times_ahead.nd rfl (Or.inl rfl))) (fun _ _ _ _ _ => pts_nil) (fun _ _ _ _ _ => (pe_op op_subU (pv 7) (pe_op op_mulV (pe_callB (call_maxU rfl) (by rfl) T.n_max (by decide +kernel) (pa_cons pe_int (pa_cons (pe_op op_subU (pe_op op_subU (pv 3) (pv 9)) (pv 1)) pa_nil))) (pv 2))))))))))))
  · refine run_bodyS (n := 6) (by decide) (by rintro _ _ ⟨⟩ <;> rfl) h fun s o hR hv hE => ?_
    obtain ⟨v0, v1, v2, v3, v4, v5, rfl⟩ := len6 hv
    cases hR with
    | mk h0 h1 h2 h3 h4 h5 h6 h7 h8 => exact ⟨_, rd_times_ahead h0 h1 h2 h3 h4 h5 h6 h7 h8, .rt (Lv.leave (by walk_at "lv") rfl)⟩
theorem ok_faults_for (T : Tx P K mg A) (TBs : TBs base mg A ∧ Dif A) : FnOk P w K mg base (L2.CX P w) 7 A.a_faults_for A.fd_faults_for ["crews", "work", "every", "burst", "gap", "lamps", "ticks"] (spF K (R_faults_for K A.C A.T)) := by
  refine T.F_faults_for.okX sc_faults_for (fun vs H Q E h => spf_len (by rintro _ _ ⟨⟩ <;> rfl) h) (fun cdv Ar outer s H vs Q E hr h => ⟨t_faults_for K A.C A.T E, ?_, ?_⟩)
  · exact (pss_cons (ps_set (i := 7) sc_faults_for.nd rfl (by first | exact Or.inl rfl | exact Or.inr rfl) (pe_call (ok_dark_of T TBs) (hr.mono (by decide)) (by rfl) T.g_dark_of T.F_dark_of.kp T.b_dark_of .nil (pass_e (takes_of rfl rfl rfl rfl)) (pa_cons (pv 0) (pa_cons (pv 1) (pa_cons (pv 2) (pa_cons (pv 3) (pa_cons (pv 4) (pa_cons (pv 5) pa_nil))))))))
      (pss_cons (ps_if (PW.pt (pw_and (pt_cmpR op_isnU (pv 7) pe_non (nomark _)) (pw_and1 (pt_cmpR (op_ltU hr.units0) (pv 7) (pv 6) (nomark _))))) (pss_one (ps_ret pe_non)) pss_nil)
      (pss_cons (ps_set (i := 8) sc_faults_for.nd rfl (by first | exact Or.inl rfl | exact Or.inr rfl) pe_int)
      (pss_one (ps_while (passes_of rfl) (pt_val pe_bl) (pss_cons (ps_for (passes_of rfl) rfl (pi_range1 (by rfl) T.n_range (pa_cons (pv 2) pa_nil)) (pg_name (i := 9) sc_faults_for.nd rfl (by first | exact Or.inl rfl | exact Or.inr rfl)) (pss_cons (ps_set (i := 10) sc_faults_for.nd rfl (by first | exact Or.inl rfl | exact Or.inr rfl) (pe_call (ok_times_ahead T TBs) (hr.mono (by decide)) (by rfl) T.g_times_ahead T.F_times_ahead.kp T.b_times_ahead .nil (pass_e (takes_of rfl rfl rfl rfl)) (pa_cons (pv 2) (pa_cons (pv 3) (pa_cons (pv 4) (pa_cons (pv 5) (pa_cons (pv 8) (pa_cons (pv 9) pa_nil))))))))
      (pss_cons (ps_set (i := 11) sc_faults_for.nd rfl (by first | exact Or.inl rfl | exact Or.inr rfl) (pe_call (ok_finish_all T TBs) (hr.mono (by decide)) (by rfl) T.g_finish_all T.F_finish_all.kp T.b_finish_all .nil (pass_e (takes_of rfl rfl rfl rfl)) (pa_cons (pv 0) (pa_cons (pv 1) (pa_cons (pe_lc (own := [("tick", 12)]) rfl sc_faults_for.nd (pi_seqU (pv 10)) (blkOk_by (own := [("tick", 12)]) (N := ["crews", "work", "every", "burst", "gap", "lamps", "ticks", "longest", "singles", "phase", "times", "ends", "tick"]) (sc := defScope s_faults_for) (by decide +kernel)) (fun _ _ _ _ _ => (pg_name (i := 12) sc_faults_for.nd rfl (Or.inl rfl))) (fun _ _ _ _ _ => pts_nil) (fun _ _ _ _ _ => (pe_call (ok_read_at T TBs) (hr.mono (by decide)) (by rfl) T.g_read_at T.F_read_at.kp T.b_read_at .nil passL (pa_cons (pv 2) (pa_cons (pv 12) pa_nil))))) pa_nil)))))
      (pss_one (ps_if (pt_cmpR op_geU (pe_op op_subU (pe_ix ix_U (pv 11) (pe_un un_negU (pv 5)) (fun _ _ => rfl)) (pe_ix ix_U (pv 10) (pe_un un_negU pe_int) (fun _ _ => rfl))) (pv 6) (nomark _)) (pss_one (ps_ret (pv 10))) pss_nil)))))
      (pss_one (ps_aug (i := 8) sc_faults_for.nd rfl (by first | exact Or.inl rfl | exact Or.inr rfl) (pe_op op_addU pe_int (pe_op op_divU (pv 8) pe_int)) ip_add))))))))
  · refine run_bodyS (n := 7) (by decide) (by rintro _ _ ⟨⟩ <;> rfl) h fun s o hR hv hE => ?_
    obtain ⟨v0, v1, v2, v3, v4, v5, v6, rfl⟩ := len7 hv
    cases hR with
    | no h0 h1 h2 h3 h4 h5 h6 h7 => exact ⟨_, rd_faults_for_no h0 h1 h2 h3 h4 h5 h6 h7, .rt (Lv.leave (by walk_at "lv") rfl)⟩
    | ok h0 h1 h2 h3 h4 h5 h6 h7 h8 => exact ⟨_, rd_faults_for_ok h0 h1 h2 h3 h4 h5 h6 h7 h8, .rt (Lv.leave (by walk_at "lv") rfl)⟩
theorem ok_waiting (T : Tx P K mg A) (TBs : TBs base mg A ∧ Dif A) : FnOk P w K mg base (L2.CX P w) 8 A.a_waiting A.fd_waiting ["crews", "work", "every", "burst", "gap", "ticks"] (spF K (R_waiting K A.C A.T)) := by
  refine T.F_waiting.okX sc_waiting (fun vs H Q E h => spf_len (by rintro _ _ ⟨⟩ <;> rfl) h) (fun cdv Ar outer s H vs Q E hr h => ⟨t_waiting K A.C A.T E, ?_, ?_⟩)
  · exact (pss_cons (ps_expr (pe_call (ok_demand_all T TBs) (hr.mono (by decide)) (by rfl) T.g_demand_all T.F_demand_all.kp T.b_demand_all .nil (pass_e (takes_of rfl rfl rfl rfl)) (pa_cons (pv 0) (pa_cons (pv 1) (pa_cons (pv 2) (pa_cons (pv 3) (pa_cons (pv 4) pa_nil)))))))
      (pss_cons (ps_expr (pe_call (ok_demand T TBs) (hr.mono (by decide)) (by rfl) T.g_demand T.F_demand.kp T.b_demand .nil (pass_e (takes_of rfl rfl rfl rfl)) (pa_cons (pe_call (ok_is_in T TBs) (hr.mono (by decide)) (by rfl) T.g_is_in T.F_is_in.kp T.b_is_in .nil (pass_e (takes_of rfl rfl rfl rfl)) (pa_cons (pv 5) (pa_cons pe_int (pa_cons (pe_glob (by rfl) T.c_MOST_ASKED T.r_MOST_ASKED) pa_nil)))) (pa_cons pe_str pa_nil))))
      (pss_cons (ps_set (i := 6) sc_waiting.nd rfl (by first | exact Or.inl rfl | exact Or.inr rfl) (pe_call (ok_faults_for T TBs) (hr.mono (by decide)) (by rfl) T.g_faults_for T.F_faults_for.kp T.b_faults_for .nil (pass_e (takes_of rfl rfl rfl rfl)) (pa_cons (pv 0) (pa_cons (pv 1) (pa_cons (pv 2) (pa_cons (pv 3) (pa_cons (pv 4) (pa_cons pe_int (pa_cons (pv 5) pa_nil)))))))))
      (pss_one (ps_ret (pe_ifExp (pt_cmpR op_isU (pv 6) pe_non (nomark _)) pe_non (pe_callTy call_tupU (by rfl) T.n_tuple (by decide +kernel) (pa_cons (pv 6) pa_nil))))))))
  · refine run_bodyS (n := 6) (by decide) (by rintro _ _ ⟨⟩ <;> rfl) h fun s o hR hv hE => ?_
    obtain ⟨v0, v1, v2, v3, v4, v5, rfl⟩ := len6 hv
    cases hR with
    | none h0 h1 h2 h3 h4 h5 h6 h7 => exact ⟨_, rd_waiting_none h0 h1 h2 h3 h4 h5 h6 h7, .rt (Lv.leave (by walk_at "lv") rfl)⟩
    | ok h0 h1 h2 h3 h4 h5 h6 h7 h8 => exact ⟨_, rd_waiting_ok h0 h1 h2 h3 h4 h5 h6 h7 h8, .rt (Lv.leave (by walk_at "lv") rfl)⟩
    | no h0 h1 h2 h3 h4 h5 => exact ⟨_, rd_waiting_no h0 h1 h2 h3 h4 h5, .ex (Lv.leave (by walk_at "lv") rfl)⟩
    | no6 h0 h1 h2 h3 h4 h5 h6 h7 => exact ⟨_, rd_waiting_no6 h0 h1 h2 h3 h4 h5 h6 h7, .ex (Lv.leave (by walk_at "lv") rfl)⟩
theorem ok_is_waiting (T : Tx P K mg A) (TBs : TBs base mg A ∧ Dif A) : FnOk P w K mg base (L2.CX P w) 5 A.a_is_waiting A.fd_is_waiting ["crews", "work", "every", "burst", "gap", "ticks", "value"] (spF K (R_is_waiting K A.C A.T)) := by
  refine T.F_is_waiting.okX sc_is_waiting (fun vs H Q E h => spf_len (by rintro _ _ ⟨⟩ <;> rfl) h) (fun cdv Ar outer s H vs Q E hr h => ⟨t_is_waiting K A.C A.T E, ?_, ?_⟩)
  · exact (pss_cons (ps_expr (pe_call (ok_demand_all T TBs) (hr.mono (by decide)) (by rfl) T.g_demand_all T.F_demand_all.kp T.b_demand_all .nil (pass_e (takes_of rfl rfl rfl rfl)) (pa_cons (pv 0) (pa_cons (pv 1) (pa_cons (pv 2) (pa_cons (pv 3) (pa_cons (pv 4) pa_nil)))))))
      (pss_cons (ps_expr (pe_call (ok_demand T TBs) (hr.mono (by decide)) (by rfl) T.g_demand T.F_demand.kp T.b_demand .nil (pass_e (takes_of rfl rfl rfl rfl)) (pa_cons (pe_call (ok_is_in T TBs) (hr.mono (by decide)) (by rfl) T.g_is_in T.F_is_in.kp T.b_is_in .nil (pass_e (takes_of rfl rfl rfl rfl)) (pa_cons (pv 5) (pa_cons pe_int (pa_cons (pe_glob (by rfl) T.c_MOST_ASKED T.r_MOST_ASKED) pa_nil)))) (pa_cons pe_str pa_nil))))
      (pss_cons (ps_if (PW.pt (pw_or (pt_not (pt_val (pe_call (ok_are_times T TBs) (hr.mono (by decide)) (by rfl) T.g_are_times T.F_are_times.kp T.b_are_times .nil (pass_e (takes_of rfl rfl rfl rfl)) (pa_cons (pv 6) pa_nil)))) (pw_or (pt_not (pt_chain op_leU op_leU pe_int (pe_callB call_lenU (by rfl) T.n_len (by decide +kernel) (pa_cons (pv 6) pa_nil)) (pe_glob (by rfl) T.c_MOST_WAITING T.r_MOST_WAITING))) (pw_or1 (pt_not (pt_val (pe_call (ok_are_kept T TBs) (hr.mono (by decide)) (by rfl) T.g_are_kept T.F_are_kept.kp T.b_are_kept .nil (pass_e (takes_of rfl rfl rfl rfl)) (pa_cons (pv 3) (pa_cons (pv 4) (pa_cons (pv 6) pa_nil)))))))))) (pss_one (ps_ret pe_bl)) pss_nil)
      (pss_one (ps_ret (pe_cmpR op_geU (pe_ix ix_U (pe_call (ok_wait_all T TBs) (hr.mono (by decide)) (by rfl) T.g_wait_all T.F_wait_all.kp T.b_wait_all .nil (pass_e (takes_of rfl rfl rfl rfl)) (pa_cons (pv 0) (pa_cons (pv 1) (pa_cons (pv 2) (pa_cons (pv 6) pa_nil))))) (pe_un un_negU pe_int) (fun _ _ => rfl)) (pv 5) (nomark _)))))))
  · refine run_bodyS (n := 7) (by decide) (by rintro _ _ ⟨⟩ <;> rfl) h fun s o hR hv hE => ?_
    obtain ⟨v0, v1, v2, v3, v4, v5, v6, rfl⟩ := len7 hv
    cases hR with
    | tup h0 h1 h2 h3 h4 h5 h6 => exact ⟨_, rd_is_waiting_tup h0 h1 h2 h3 h4 h5 h6, .rt (Lv.leave (by walk_at "lv") rfl)⟩
    | oth h0 h1 h2 h3 h4 h5 h6 h7 h8 => exact ⟨_, rd_is_waiting_oth h0 h1 h2 h3 h4 h5 h6 h7 h8, .rt (Lv.leave (by walk_at "lv") rfl)⟩
    | no h0 h1 h2 h3 h4 h5 => exact ⟨_, rd_is_waiting_no h0 h1 h2 h3 h4 h5, .ex (Lv.leave (by walk_at "lv") rfl)⟩
    | no6 h0 h1 h2 h3 h4 h5 h6 h7 => exact ⟨_, rd_is_waiting_no6 h0 h1 h2 h3 h4 h5 h6 h7, .ex (Lv.leave (by walk_at "lv") rfl)⟩
theorem ok__law_dice (T : Tx P K mg A) (TBs : TBs base mg A ∧ Dif A) : FnOk P w K mg base (L2.CX P w) 1 A.a__law_dice A.fd__law_dice ["script", "spot"] (spF K (R__law_dice K A.C A.T)) := by
  refine T.F__law_dice.okX sc__law_dice (fun vs H Q E h => spf_len (by rintro _ _ ⟨⟩ <;> rfl) h) (fun cdv Ar outer s H vs Q E hr h => ⟨t__law_dice K A.C A.T E, ?_, ?_⟩)
  · exact (pss_cons (ps_set (i := 2) sc__law_dice.nd rfl (by first | exact Or.inl rfl | exact Or.inr rfl) (pe_ifExp (pt_cmpR (op_ltU hr.units0) (pv 1) (pe_callB call_lenU (by rfl) T.n_len (by decide +kernel) (pa_cons (pv 0) pa_nil)) (nomark _)) (pe_ix ix_U (pv 0) (pv 1) (fun _ _ => rfl)) (pe_op op_addU (pe_op op_mulV pe_int (pv 1)) pe_int)))
      (pss_cons (ps_set (i := 3) sc__law_dice.nd rfl (by first | exact Or.inl rfl | exact Or.inr rfl) (pe_op op_addU pe_int (pe_op op_mulV pe_int (pv 1))))
      (pss_cons (ps_for (passes_of rfl) rfl (pi_seqU (pe_op op_addU (pe_slice sl_U (pv 0) po_none (po_some pe_int)) (pe_lst (pa_cons (pv 2) pa_nil)))) (pg_name (i := 4) sc__law_dice.nd rfl (by first | exact Or.inl rfl | exact Or.inr rfl)) (pss_one (ps_set (i := 3) sc__law_dice.nd rfl (by first | exact Or.inl rfl | exact Or.inr rfl) (pe_op op_modU (pe_callTy call_intU (by rfl) T.n_int (by decide +kernel) (pa_cons (pe_op op_addU (pe_op op_mulV (pv 3) pe_int) (pe_op op_modU (pe_callTy call_intU (by rfl) T.n_int (by decide +kernel) (pa_cons (pv 4) pa_nil)) pe_int)) pa_nil)) pe_int))))
      (pss_one (ps_ret (pe_lst (pa_cons (pe_ifExp (PW.pt (pw_or (pt_cmpR (op_ltU hr.units0) (pv 2) pe_int (nomark _)) (pw_or1 (pt_cmpR op_geU (pv 2) (pe_op op_powU pe_int pe_int) (nomark _))))) (pe_callB call_absU (by rfl) T.n_abs (by decide +kernel) (pa_cons (pv 2) pa_nil)) pe_int) (pa_cons (pv 3) (pa_cons pe_int pa_nil)))))))))
  · refine run_bodyS (n := 2) (by decide) (by rintro _ _ ⟨⟩ <;> rfl) h fun s o hR hv hE => ?_
    obtain ⟨v0, v1, rfl⟩ := len2 hv
    cases hR with
    | mk h => obtain ⟨s1, hr1, hg⟩ := (rd__law_dice h); exact ⟨_, hr1, .ro (Lv.leave (by walk_at "lv") hg.symm)⟩
theorem ok__law_roll (T : Tx P K mg A) (TBs : TBs base mg A ∧ Dif A) : FnOk P w K mg base (L2.CX P w) 1 A.a__law_roll A.fd__law_roll ["dice", "total"] (spF K (R__law_roll K A.C A.T)) := by
  refine T.F__law_roll.okX sc__law_roll (fun vs H Q E h => spf_len (by rintro _ _ ⟨⟩ <;> rfl) h) (fun cdv Ar outer s H vs Q E hr h => ⟨t__law_roll K A.C A.T E, ?_, ?_⟩)
  · exact (pss_cons (ps_if (pt_cmpR op_gtU (pe_ix ix_U (pv 0) pe_int (fun _ _ => rfl)) pe_int (nomark _)) (pss_cons (ps_set (i := 2) sc__law_roll.nd rfl (by first | exact Or.inl rfl | exact Or.inr rfl) (pe_op op_modU (pe_callTy call_intU (by rfl) T.n_int (by decide +kernel) (pa_cons (pe_ix ix_U (pv 0) pe_int (fun _ _ => rfl)) pa_nil)) (pv 1)))
      (pss_cons (ps_asg (pe_op op_divU (pe_ix ix_U (pv 0) pe_int (fun _ _ => rfl)) (pv 1)) (pg_sub (pv 0) pe_int set_list))
      (pss_one (ps_ret (pv 2))))) pss_nil)
      (pss_cons (ps_asg (pe_op op_addU (pe_ix ix_U (pv 0) pe_int (fun _ _ => rfl)) pe_int) (pg_sub (pv 0) pe_int set_list))
      (pss_cons (ps_asg (pe_op op_modU (pe_callTy call_intU (by rfl) T.n_int (by decide +kernel) (pa_cons (pe_op op_addU (pe_op op_addU (pe_op op_mulV (pe_ix ix_U (pv 0) pe_int (fun _ _ => rfl)) pe_int) (pe_op op_mulV (pe_op op_mulV (pe_ix ix_U (pv 0) pe_int (fun _ _ => rfl)) (pe_ix ix_U (pv 0) pe_int (fun _ _ => rfl))) pe_int)) pe_int) pa_nil)) pe_int) (pg_sub (pv 0) pe_int set_list))
      (pss_one (ps_ret (pe_op op_modU (pe_callTy call_intU (by rfl) T.n_int (by decide +kernel) (pa_cons (pe_op op_divU (pe_ix ix_U (pv 0) pe_int (fun _ _ => rfl)) pe_int) pa_nil)) (pv 1)))))))
  · refine run_bodyS (n := 2) (by decide) (by rintro _ _ ⟨⟩ <;> rfl) h fun s o hR hv hE => ?_
    obtain ⟨v0, v1, rfl⟩ := len2 hv
    cases hR with
    | mk h1 h2 h3 h4 => obtain rfl := pin_at hE; obtain ⟨s1, hr1, hs, hg⟩ := (rd__law_roll h1 h2 h3 h4); exact ⟨_, hr1, .rt (Lv.leave (by walk_at "lv") hg.symm)⟩
theorem ok__law_pick (T : Tx P K mg A) (TBs : TBs base mg A ∧ Dif A) : FnOk P w K mg base (L2.CX P w) 2 A.a__law_pick A.fd__law_pick ["dice", "things"] (spF K (R__law_pick K A.C A.T)) := by
  refine T.F__law_pick.okX sc__law_pick (fun vs H Q E h => spf_len (by rintro _ _ ⟨⟩ <;> rfl) h) (fun cdv Ar outer s H vs Q E hr h => ⟨t__law_pick K A.C A.T E, ?_, ?_⟩)
  · exact (pss_one (ps_ret (pe_ix ix_U (pv 1) (pe_call (ok__law_roll T TBs) (hr.mono (by decide)) (by rfl) T.g__law_roll T.F__law_roll.kp T.b__law_roll .nil (pass_e (takes_of rfl rfl rfl rfl)) (pa_cons (pv 0) (pa_cons (pe_callB call_lenU (by rfl) T.n_len (by decide +kernel) (pa_cons (pv 1) pa_nil)) pa_nil))) (fun _ _ => rfl))))
  · refine run_bodyS (n := 2) (by decide) (by rintro _ _ ⟨⟩ <;> rfl) h fun s o hR hv hE => ?_
    obtain ⟨v0, v1, rfl⟩ := len2 hv
    cases hR with
    | mk h1 h2 h3 h4 => obtain rfl := pin_at hE; exact ⟨_, rd__law_pick h1 h2 h3 h4, .rt (Lv.leave (by walk_at "lv") rfl)⟩
theorem ok__law_l_choices (T : Tx P K mg A) (TBs : TBs base mg A ∧ Dif A) : FnOk P w K mg base (L2.CX P w) 3 A.a__law_l_choices A.fd__law_l_choices ["dice"] (spF K (R__law_l_choices K A.C A.T)) := by
  refine T.F__law_l_choices.okX sc__law_l_choices (fun vs H Q E h => spf_len (by rintro _ _ ⟨⟩ <;> rfl) h) (fun cdv Ar outer s H vs Q E hr h => ⟨t__law_l_choices K A.C A.T E, ?_, ?_⟩)
  · exact (pss_cons (ps_set (i := 1) sc__law_l_choices.nd rfl (by first | exact Or.inl rfl | exact Or.inr rfl) (pe_disp (pps_cons pe_str (pe_call (ok__law_pick T TBs) (hr.mono (by decide)) (by rfl) T.g__law_pick T.F__law_pick.kp T.b__law_pick .nil (pass_e (takes_of rfl rfl rfl rfl)) (pa_cons (pv 0) (pa_cons (pe_lst (pa_cons pe_int (pa_cons pe_int (pa_cons pe_int (pa_cons pe_int pa_nil))))) pa_nil))) (pps_cons pe_str (pe_op op_addU pe_int (pe_call (ok__law_roll T TBs) (hr.mono (by decide)) (by rfl) T.g__law_roll T.F__law_roll.kp T.b__law_roll .nil (pass_e (takes_of rfl rfl rfl rfl)) (pa_cons (pv 0) (pa_cons pe_int pa_nil)))) (pps_cons pe_str (pe_op op_addU pe_int (pe_call (ok__law_roll T TBs) (hr.mono (by decide)) (by rfl) T.g__law_roll T.F__law_roll.kp T.b__law_roll .nil (pass_e (takes_of rfl rfl rfl rfl)) (pa_cons (pv 0) (pa_cons pe_int pa_nil)))) (pps_cons pe_str (pe_op op_addU pe_int (pe_call (ok__law_roll T TBs) (hr.mono (by decide)) (by rfl) T.g__law_roll T.F__law_roll.kp T.b__law_roll .nil (pass_e (takes_of rfl rfl rfl rfl)) (pa_cons (pv 0) (pa_cons pe_int pa_nil)))) pps_nil)))) (by rfl) (by rfl) (fun z => by cases z) (by decide)))
      (pss_cons (ps_asg (pe_op op_addU pe_int (pe_call (ok__law_roll T TBs) (hr.mono (by decide)) (by rfl) T.g__law_roll T.F__law_roll.kp T.b__law_roll .nil (pass_e (takes_of rfl rfl rfl rfl)) (pa_cons (pv 0) (pa_cons pe_int pa_nil)))) (pg_sub (pv 1) pe_str (set_dict (hu1 hr))))
      (pss_cons (ps_asg (pe_call (ok__law_roll T TBs) (hr.mono (by decide)) (by rfl) T.g__law_roll T.F__law_roll.kp T.b__law_roll .nil (pass_e (takes_of rfl rfl rfl rfl)) (pa_cons (pv 0) (pa_cons pe_int pa_nil))) (pg_sub (pv 1) pe_str (set_dict (hu1 hr))))
      (pss_cons (ps_asg (pe_op op_addU pe_int (pe_call (ok__law_roll T TBs) (hr.mono (by decide)) (by rfl) T.g__law_roll T.F__law_roll.kp T.b__law_roll .nil (pass_e (takes_of rfl rfl rfl rfl)) (pa_cons (pv 0) (pa_cons pe_int pa_nil)))) (pg_sub (pv 1) pe_str (set_dict (hu1 hr))))
      (pss_cons (ps_asg (pe_op op_addU pe_int (pe_call (ok__law_roll T TBs) (hr.mono (by decide)) (by rfl) T.g__law_roll T.F__law_roll.kp T.b__law_roll .nil (pass_e (takes_of rfl rfl rfl rfl)) (pa_cons (pv 0) (pa_cons pe_int pa_nil)))) (pg_sub (pv 1) pe_str (set_dict (hu1 hr))))
      (pss_cons (ps_asg (pe_op op_addU pe_int (pe_call (ok__law_roll T TBs) (hr.mono (by decide)) (by rfl) T.g__law_roll T.F__law_roll.kp T.b__law_roll .nil (pass_e (takes_of rfl rfl rfl rfl)) (pa_cons (pv 0) (pa_cons pe_int pa_nil)))) (pg_sub (pv 1) pe_str (set_dict (hu1 hr))))
      (pss_cons (ps_asg (pe_call (ok__law_pick T TBs) (hr.mono (by decide)) (by rfl) T.g__law_pick T.F__law_pick.kp T.b__law_pick .nil (pass_e (takes_of rfl rfl rfl rfl)) (pa_cons (pv 0) (pa_cons (pe_lst (pa_cons pe_int (pa_cons pe_int (pa_cons pe_int (pa_cons pe_int (pa_cons pe_int (pa_cons pe_int pa_nil))))))) pa_nil))) (pg_sub (pv 1) pe_str (set_dict (hu1 hr))))
      (pss_cons (ps_asg (pe_call (ok__law_roll T TBs) (hr.mono (by decide)) (by rfl) T.g__law_roll T.F__law_roll.kp T.b__law_roll .nil (pass_e (takes_of rfl rfl rfl rfl)) (pa_cons (pv 0) (pa_cons pe_int pa_nil))) (pg_sub (pv 1) pe_str (set_dict (hu1 hr))))
      (pss_cons (ps_asg (pe_call (ok__law_roll T TBs) (hr.mono (by decide)) (by rfl) T.g__law_roll T.F__law_roll.kp T.b__law_roll .nil (pass_e (takes_of rfl rfl rfl rfl)) (pa_cons (pv 0) (pa_cons pe_int pa_nil))) (pg_sub (pv 1) pe_str (set_dict (hu1 hr))))
      (pss_cons (ps_asg (pe_call (ok__law_roll T TBs) (hr.mono (by decide)) (by rfl) T.g__law_roll T.F__law_roll.kp T.b__law_roll .nil (pass_e (takes_of rfl rfl rfl rfl)) (pa_cons (pv 0) (pa_cons pe_int pa_nil))) (pg_sub (pv 1) pe_str (set_dict (hu1 hr))))
      (pss_cons (ps_asg (pe_call (ok__law_roll T TBs) (hr.mono (by decide)) (by rfl) T.g__law_roll T.F__law_roll.kp T.b__law_roll .nil (pass_e (takes_of rfl rfl rfl rfl)) (pa_cons (pv 0) (pa_cons pe_int pa_nil))) (pg_sub (pv 1) pe_str (set_dict (hu1 hr))))
      (pss_cons (ps_asg (pe_call (ok__law_roll T TBs) (hr.mono (by decide)) (by rfl) T.g__law_roll T.F__law_roll.kp T.b__law_roll .nil (pass_e (takes_of rfl rfl rfl rfl)) (pa_cons (pv 0) (pa_cons pe_int pa_nil))) (pg_sub (pv 1) pe_str (set_dict (hu1 hr))))
      (pss_one (ps_ret (pv 1)))))))))))))))
  · refine run_bodyS (n := 1) (by decide) (by rintro _ _ ⟨⟩ <;> rfl) h fun s o hR hv hE => ?_
    obtain ⟨v0, rfl⟩ := len1 hv
    cases hR with
    | mk h0 h1 => obtain rfl := pin_at hE; exact ⟨_, rd__law_l_choices h0 h1, .rt (Lv.leave (by walk_at "lv") rfl)⟩
theorem ok__law_l_wide (T : Tx P K mg A) (TBs : TBs base mg A ∧ Dif A) : FnOk P w K mg base (L2.CX P w) 3 A.a__law_l_wide A.fd__law_l_wide ["dice"] (spF K (R__law_l_wide K A.C A.T)) := by
  refine T.F__law_l_wide.okX sc__law_l_wide (fun vs H Q E h => spf_len (by rintro _ _ ⟨⟩ <;> rfl) h) (fun cdv Ar outer s H vs Q E hr h => ⟨t__law_l_wide K A.C A.T E, ?_, ?_⟩)
  · exact (pss_cons (ps_set (i := 1) sc__law_l_wide.nd rfl (by first | exact Or.inl rfl | exact Or.inr rfl) (pe_disp (pps_cons pe_str (pe_op op_addU pe_int (pe_call (ok__law_roll T TBs) (hr.mono (by decide)) (by rfl) T.g__law_roll T.F__law_roll.kp T.b__law_roll .nil (pass_e (takes_of rfl rfl rfl rfl)) (pa_cons (pv 0) (pa_cons pe_int pa_nil)))) (pps_cons pe_str (pe_op op_addU pe_int (pe_call (ok__law_roll T TBs) (hr.mono (by decide)) (by rfl) T.g__law_roll T.F__law_roll.kp T.b__law_roll .nil (pass_e (takes_of rfl rfl rfl rfl)) (pa_cons (pv 0) (pa_cons pe_int pa_nil)))) (pps_cons pe_str (pe_op op_addU pe_int (pe_call (ok__law_roll T TBs) (hr.mono (by decide)) (by rfl) T.g__law_roll T.F__law_roll.kp T.b__law_roll .nil (pass_e (takes_of rfl rfl rfl rfl)) (pa_cons (pv 0) (pa_cons pe_int pa_nil)))) (pps_cons pe_str (pe_op op_addU pe_int (pe_call (ok__law_roll T TBs) (hr.mono (by decide)) (by rfl) T.g__law_roll T.F__law_roll.kp T.b__law_roll .nil (pass_e (takes_of rfl rfl rfl rfl)) (pa_cons (pv 0) (pa_cons pe_int pa_nil)))) pps_nil)))) (by rfl) (by rfl) (fun z => by cases z) (by decide)))
      (pss_cons (ps_asg (pe_op op_addU pe_int (pe_call (ok__law_roll T TBs) (hr.mono (by decide)) (by rfl) T.g__law_roll T.F__law_roll.kp T.b__law_roll .nil (pass_e (takes_of rfl rfl rfl rfl)) (pa_cons (pv 0) (pa_cons pe_int pa_nil)))) (pg_sub (pv 1) pe_str (set_dict (hu1 hr))))
      (pss_cons (ps_asg (pe_call (ok__law_roll T TBs) (hr.mono (by decide)) (by rfl) T.g__law_roll T.F__law_roll.kp T.b__law_roll .nil (pass_e (takes_of rfl rfl rfl rfl)) (pa_cons (pv 0) (pa_cons pe_int pa_nil))) (pg_sub (pv 1) pe_str (set_dict (hu1 hr))))
      (pss_cons (ps_asg (pe_op op_addU pe_int (pe_call (ok__law_roll T TBs) (hr.mono (by decide)) (by rfl) T.g__law_roll T.F__law_roll.kp T.b__law_roll .nil (pass_e (takes_of rfl rfl rfl rfl)) (pa_cons (pv 0) (pa_cons pe_int pa_nil)))) (pg_sub (pv 1) pe_str (set_dict (hu1 hr))))
      (pss_cons (ps_asg (pe_op op_addU pe_int (pe_call (ok__law_roll T TBs) (hr.mono (by decide)) (by rfl) T.g__law_roll T.F__law_roll.kp T.b__law_roll .nil (pass_e (takes_of rfl rfl rfl rfl)) (pa_cons (pv 0) (pa_cons pe_int pa_nil)))) (pg_sub (pv 1) pe_str (set_dict (hu1 hr))))
      (pss_cons (ps_asg (pe_op op_addU pe_int (pe_call (ok__law_roll T TBs) (hr.mono (by decide)) (by rfl) T.g__law_roll T.F__law_roll.kp T.b__law_roll .nil (pass_e (takes_of rfl rfl rfl rfl)) (pa_cons (pv 0) (pa_cons pe_int pa_nil)))) (pg_sub (pv 1) pe_str (set_dict (hu1 hr))))
      (pss_cons (ps_asg (pe_call (ok__law_roll T TBs) (hr.mono (by decide)) (by rfl) T.g__law_roll T.F__law_roll.kp T.b__law_roll .nil (pass_e (takes_of rfl rfl rfl rfl)) (pa_cons (pv 0) (pa_cons pe_int pa_nil))) (pg_sub (pv 1) pe_str (set_dict (hu1 hr))))
      (pss_cons (ps_asg (pe_call (ok__law_roll T TBs) (hr.mono (by decide)) (by rfl) T.g__law_roll T.F__law_roll.kp T.b__law_roll .nil (pass_e (takes_of rfl rfl rfl rfl)) (pa_cons (pv 0) (pa_cons pe_int pa_nil))) (pg_sub (pv 1) pe_str (set_dict (hu1 hr))))
      (pss_cons (ps_asg (pe_call (ok__law_roll T TBs) (hr.mono (by decide)) (by rfl) T.g__law_roll T.F__law_roll.kp T.b__law_roll .nil (pass_e (takes_of rfl rfl rfl rfl)) (pa_cons (pv 0) (pa_cons pe_int pa_nil))) (pg_sub (pv 1) pe_str (set_dict (hu1 hr))))
      (pss_cons (ps_asg (pe_call (ok__law_pick T TBs) (hr.mono (by decide)) (by rfl) T.g__law_pick T.F__law_pick.kp T.b__law_pick .nil (pass_e (takes_of rfl rfl rfl rfl)) (pa_cons (pv 0) (pa_cons (pe_lst (pa_cons (pe_call (ok__law_roll T TBs) (hr.mono (by decide)) (by rfl) T.g__law_roll T.F__law_roll.kp T.b__law_roll .nil (pass_e (takes_of rfl rfl rfl rfl)) (pa_cons (pv 0) (pa_cons pe_int pa_nil))) (pa_cons (pe_call (ok__law_roll T TBs) (hr.mono (by decide)) (by rfl) T.g__law_roll T.F__law_roll.kp T.b__law_roll .nil (pass_e (takes_of rfl rfl rfl rfl)) (pa_cons (pv 0) (pa_cons pe_int pa_nil))) pa_nil))) pa_nil))) (pg_sub (pv 1) pe_str (set_dict (hu1 hr))))
      (pss_cons (ps_asg (pe_call (ok__law_pick T TBs) (hr.mono (by decide)) (by rfl) T.g__law_pick T.F__law_pick.kp T.b__law_pick .nil (pass_e (takes_of rfl rfl rfl rfl)) (pa_cons (pv 0) (pa_cons (pe_lst (pa_cons (pe_call (ok__law_roll T TBs) (hr.mono (by decide)) (by rfl) T.g__law_roll T.F__law_roll.kp T.b__law_roll .nil (pass_e (takes_of rfl rfl rfl rfl)) (pa_cons (pv 0) (pa_cons pe_int pa_nil))) (pa_cons (pe_call (ok__law_roll T TBs) (hr.mono (by decide)) (by rfl) T.g__law_roll T.F__law_roll.kp T.b__law_roll .nil (pass_e (takes_of rfl rfl rfl rfl)) (pa_cons (pv 0) (pa_cons pe_int pa_nil))) pa_nil))) pa_nil))) (pg_sub (pv 1) pe_str (set_dict (hu1 hr))))
      (pss_cons (ps_asg (pe_call (ok__law_roll T TBs) (hr.mono (by decide)) (by rfl) T.g__law_roll T.F__law_roll.kp T.b__law_roll .nil (pass_e (takes_of rfl rfl rfl rfl)) (pa_cons (pv 0) (pa_cons pe_int pa_nil))) (pg_sub (pv 1) pe_str (set_dict (hu1 hr))))
      (pss_one (ps_ret (pv 1)))))))))))))))
  · refine run_bodyS (n := 1) (by decide) (by rintro _ _ ⟨⟩ <;> rfl) h fun s o hR hv hE => ?_
    obtain ⟨v0, rfl⟩ := len1 hv
    cases hR with
    | mk h0 h1 => obtain rfl := pin_at hE; exact ⟨_, rd__law_l_wide h0 h1, .rt (Lv.leave (by walk_at "lv") rfl)⟩
theorem ok__law_l_ends (T : Tx P K mg A) (TBs : TBs base mg A ∧ Dif A) : FnOk P w K mg base (L2.CX P w) 1 A.a__law_l_ends A.fd__law_l_ends ["crews", "work", "times"] (spF K (R__law_l_ends K A.C A.T)) := by
  refine T.F__law_l_ends.okX sc__law_l_ends (fun vs H Q E h => spf_len (by rintro _ _ ⟨⟩ <;> rfl) h) (fun cdv Ar outer s H vs Q E hr h => ⟨t__law_l_ends K A.C A.T E, ?_, ?_⟩)
  · exact (pss_cons (ps_par (i := 3) (j := 4) rfl sc__law_l_ends.nd rfl rfl (by decide) rfl rfl (pa_cons (pe_op op_repL (pe_lst (pa_cons pe_int pa_nil)) (pv 0)) (pa_cons (pe_lst pa_nil) pa_nil)) (by rfl))
      (pss_cons (ps_for (passes_of rfl) rfl (pi_seqU (pv 2)) (pg_name (i := 5) sc__law_l_ends.nd rfl (by first | exact Or.inl rfl | exact Or.inr rfl)) (pss_cons (ps_set (i := 3) sc__law_l_ends.nd rfl (by first | exact Or.inl rfl | exact Or.inr rfl) (pe_callB call_sortV (by rfl) T.n_sorted (by decide +kernel) (pa_cons (pv 3) pa_nil)))
      (pss_cons (ps_set (i := 3) sc__law_l_ends.nd rfl (by first | exact Or.inl rfl | exact Or.inr rfl) (pe_op op_addU (pe_lst (pa_cons (pe_op op_addU (pe_callB (call_maxU rfl) (by rfl) T.n_max (by decide +kernel) (pa_cons (pe_ix ix_U (pv 3) pe_int (fun _ _ => rfl)) (pa_cons (pv 5) pa_nil))) (pv 1)) pa_nil)) (pe_slice sl_U (pv 3) (po_some pe_int) po_none)))
      (pss_one (ps_expr (pe_bm PySem.F.plainAttrs_list PySem.F.slot_list_append PySem.F.type_list_append mt_append (pv 4) (pa_cons (pe_ix ix_U (pv 3) pe_int (fun _ _ => rfl)) pa_nil)))))))
      (pss_one (ps_ret (pv 4)))))
  · refine run_bodyS (n := 3) (by decide) (by rintro _ _ ⟨⟩ <;> rfl) h fun s o hR hv hE => ?_
    obtain ⟨v0, v1, v2, rfl⟩ := len3 hv
    cases hR with
    | mk h0 h1 h2 h3 => exact ⟨_, rd__law_l_ends h0 h1 h2 h3, .rt (Lv.leave (by walk_at "lv") rfl)⟩
theorem ok__law_l_told (T : Tx P K mg A) (TBs : TBs base mg A ∧ Dif A) : FnOk P w K mg base (L2.CX P w) 1 A.a__law_l_told A.fd__law_l_told ["every", "tick"] (spF K (R__law_l_told K A.C A.T)) := by
  refine T.F__law_l_told.okX sc__law_l_told (fun vs H Q E h => spf_len (by rintro _ _ ⟨⟩ <;> rfl) h) (fun cdv Ar outer s H vs Q E hr h => ⟨t__law_l_told K A.C A.T E, ?_, ?_⟩)
  · exact (pss_one (ps_ret (pe_op op_addU (pv 1) (pe_op op_modU (pe_callTy call_intU (by rfl) T.n_int (by decide +kernel) (pa_cons (pe_un un_negU (pv 1)) pa_nil)) (pv 0)))))
  · refine run_bodyS (n := 2) (by decide) (by rintro _ _ ⟨⟩ <;> rfl) h fun s o hR hv hE => ?_
    obtain ⟨v0, v1, rfl⟩ := len2 hv
    cases hR with
    | mk h0 => exact ⟨_, rd__law_l_told h0, .rt (Lv.leave (by walk_at "lv") rfl)⟩
theorem ok__law_l_delay (T : Tx P K mg A) (TBs : TBs base mg A ∧ Dif A) : FnOk P w K mg base (L2.CX P w) 2 A.a__law_l_delay A.fd__law_l_delay ["own", "many"] (spF K (R__law_l_delay K A.C A.T)) := by
  refine T.F__law_l_delay.okX sc__law_l_delay (fun vs H Q E h => spf_len (by rintro _ _ ⟨⟩ <;> rfl) h) (fun cdv Ar outer s H vs Q E hr h => ⟨t__law_l_delay K A.C A.T E, ?_, ?_⟩)
  · exact (pss_cons (ps_if (pt_cmpR (op_ltU hr.units0) (pe_op op_mulV (pe_dget (hu1 hr) (pv 0) pe_str (fun _ _ => rfl)) (pe_dget (hu1 hr) (pv 0) pe_str (fun _ _ => rfl))) (pe_dget (hu1 hr) (pv 0) pe_str (fun _ _ => rfl)) (nomark _)) (pss_one (ps_ret pe_non)) pss_nil)
      (pss_cons (ps_asg (pe_tup (pa_cons pe_int (pa_cons pe_int pa_nil))) (pg_tup rfl (pgs_cons (pg_name (i := 2) sc__law_l_delay.nd rfl (by first | exact Or.inl rfl | exact Or.inr rfl)) (pgs_cons (pg_name (i := 3) sc__law_l_delay.nd rfl (by first | exact Or.inl rfl | exact Or.inr rfl)) pgs_nil))))
      (pss_cons (ps_for (passes_of rfl) rfl (pi_range1 (by rfl) T.n_range (pa_cons (pe_dget (hu1 hr) (pv 0) pe_str (fun _ _ => rfl)) pa_nil)) (pg_name (i := 4) sc__law_l_delay.nd rfl (by first | exact Or.inl rfl | exact Or.inr rfl)) (pss_cons (ps_set (i := 5) sc__law_l_delay.nd rfl (by first | exact Or.inl rfl | exact Or.inr rfl) (pe_op op_mulV (pv 3) (pe_dget (hu1 hr) (pv 0) pe_str (fun _ _ => rfl))))
      (pss_cons (ps_set (i := 5) sc__law_l_delay.nd rfl (by first | exact Or.inl rfl | exact Or.inr rfl) (pe_op op_addU (pv 5) (pe_op op_modU (pe_callTy call_intU (by rfl) T.n_int (by decide +kernel) (pa_cons (pe_op op_subU (pv 4) (pv 5)) pa_nil)) (pe_dget (hu1 hr) (pv 0) pe_str (fun _ _ => rfl)))))
      (pss_cons (ps_set (i := 6) sc__law_l_delay.nd rfl (by first | exact Or.inl rfl | exact Or.inr rfl) (pe_op op_addU (pe_lc (own := [("at", 8)]) rfl sc__law_l_delay.nd (pi_range1 (by rfl) T.n_range (pa_cons (pv 3) pa_nil)) (blkOk_by (own := [("at", 8)]) (N := ["own", "many", "most", "singles", "phase", "first", "times", "ends", "at", "tick"]) (sc := defScope s__law_l_delay) (by decide +kernel)) (fun _ _ _ _ _ => (pg_name (i := 8) sc__law_l_delay.nd rfl (Or.inl rfl))) (fun _ _ _ _ _ => pts_nil) (fun _ _ _ _ _ => (pe_op op_subU (pv 5) (pe_op op_mulV (pe_op op_subU (pv 3) (pv 8)) (pe_dget (hu1 hr) (pv 0) pe_str (fun _ _ => rfl)))))) (pe_op op_repL (pe_lst (pa_cons (pv 5) pa_nil)) (pv 1))))
      (pss_cons (ps_set (i := 7) sc__law_l_delay.nd rfl (by first | exact Or.inl rfl | exact Or.inr rfl) (pe_call (ok__law_l_ends T TBs) (hr.mono (by decide)) (by rfl) T.g__law_l_ends T.F__law_l_ends.kp T.b__law_l_ends .nil (pass_e (takes_of rfl rfl rfl rfl)) (pa_cons (pe_dget (hu1 hr) (pv 0) pe_str (fun _ _ => rfl)) (pa_cons (pe_dget (hu1 hr) (pv 0) pe_str (fun _ _ => rfl)) (pa_cons (pe_lc (own := [("tick", 9)]) rfl sc__law_l_delay.nd (pi_seqU (pv 6)) (blkOk_by (own := [("tick", 9)]) (N := ["own", "many", "most", "singles", "phase", "first", "times", "ends", "at", "tick"]) (sc := defScope s__law_l_delay) (by decide +kernel)) (fun _ _ _ _ _ => (pg_name (i := 9) sc__law_l_delay.nd rfl (Or.inl rfl))) (fun _ _ _ _ _ => pts_nil) (fun _ _ _ _ _ => (pe_call (ok__law_l_told T TBs) (hr.mono (by decide)) (by rfl) T.g__law_l_told T.F__law_l_told.kp T.b__law_l_told .nil passL (pa_cons (pe_dget (hu1 hr) (pv 0) pe_str (fun _ _ => rfl)) (pa_cons (pv 9) pa_nil))))) pa_nil)))))
      (pss_one (ps_set (i := 2) sc__law_l_delay.nd rfl (by first | exact Or.inl rfl | exact Or.inr rfl) (pe_callB (call_maxU rfl) (by rfl) T.n_max (by decide +kernel) (pa_cons (pv 2) (pa_cons (pe_op op_subU (pe_ix ix_U (pv 7) (pe_un un_negU pe_int) (fun _ _ => rfl)) (pv 5)) pa_nil))))))))))
      (pss_one (ps_ret (pv 2))))))
  · refine run_bodyS (n := 2) (by decide) (by rintro _ _ ⟨⟩ <;> rfl) h fun s o hR hv hE => ?_
    obtain ⟨v0, v1, rfl⟩ := len2 hv
    cases hR with
    | mk h0 h1 h2 => exact ⟨_, rd__law_l_delay h0 h1 h2, .rt (Lv.leave (by walk_at "lv") rfl)⟩
theorem ok__law_is_due (T : Tx P K mg A) (TBs : TBs base mg A ∧ Dif A) : FnOk P w K mg base (L2.CX P w) 2 A.a__law_is_due A.fd__law_is_due ["own", "ticks", "value"] (spF K (R__law_is_due K A.C A.T)) := by
  refine T.F__law_is_due.okX sc__law_is_due (fun vs H Q E h => spf_len (by rintro _ _ ⟨⟩ <;> rfl) h) (fun cdv Ar outer s H vs Q E hr h => ⟨t__law_is_due K A.C A.T E, ?_, ?_⟩)
  · exact (pss_cons (ps_if (PW.pt (pw_or (pt_not (pt_val (pe_callB call_isi (by rfl) T.n_isinstance (by decide +kernel) (pa_cons (pv 2) (pa_cons (pe_bltn (v := .ty "tuple") (by rfl) T.n_tuple (by decide +kernel) rfl) pa_nil))))) (pw_or1 (pt_not (pt_chain op_leU op_leU pe_int (pe_callB call_lenU (by rfl) T.n_len (by decide +kernel) (pa_cons (pv 2) pa_nil)) pe_int))))) (pss_one (ps_ret pe_bl)) pss_nil)
      (pss_cons (ps_if (pt_cmpR (op_neU hr.units) (pe_lc (own := [("tick", 5)]) rfl sc__law_is_due.nd (pi_seqU (pv 2)) (blkOk_by (own := [("tick", 5)]) (N := ["own", "ticks", "value", "at", "ends", "tick", "to"]) (sc := defScope s__law_is_due) (by decide +kernel)) (fun _ _ _ _ _ => (pg_name (i := 5) sc__law_is_due.nd rfl (Or.inl rfl))) (fun _ _ _ _ _ => (pts_one (PW.pt (pw_or (pt_not (pt_val (pe_callB call_isi (by rfl) T.n_isinstance (by decide +kernel) (pa_cons (pv 5) (pa_cons (pe_bltn (v := .ty "int") (by rfl) T.n_int (by decide +kernel) rfl) pa_nil))))) (pw_or (pt_val (pe_callB call_isi (by rfl) T.n_isinstance (by decide +kernel) (pa_cons (pv 5) (pa_cons (pe_bltn (v := .ty "bool") (by rfl) T.n_bool (by decide +kernel) rfl) pa_nil)))) (pw_or1 (pt_not (pt_chain op_leU op_leU pe_int (pv 5) pe_int)))))))) (fun _ _ _ _ _ => pe_int)) (pe_lst pa_nil) (nomark _)) (pss_one (ps_ret pe_bl)) pss_nil)
      (pss_cons (ps_for (passes_of rfl) rfl (pi_range1 (by rfl) T.n_range (pa_cons (pe_callB call_lenU (by rfl) T.n_len (by decide +kernel) (pa_cons (pv 2) pa_nil)) pa_nil)) (pg_name (i := 3) sc__law_is_due.nd rfl (by first | exact Or.inl rfl | exact Or.inr rfl)) (pss_cons (ps_if (PW.pt (pw_and (pt_cmpR op_gtU (pv 3) pe_int (nomark _)) (pw_and1 (pt_cmpR (op_ltU hr.units0) (pe_ix ix_U (pv 2) (pv 3) (fun _ _ => rfl)) (pe_ix ix_U (pv 2) (pe_op op_subU (pv 3) pe_int) (fun _ _ => rfl)) (nomark _))))) (pss_one (ps_ret pe_bl)) pss_nil)
      (pss_one (ps_if (pt_cmpR (op_neU hr.units) (pe_lc (own := [("to", 6)]) rfl sc__law_is_due.nd (pi_range2 (by rfl) T.n_range (pa_cons (pv 3) (pa_cons (pe_callB call_lenU (by rfl) T.n_len (by decide +kernel) (pa_cons (pv 2) pa_nil)) pa_nil))) (blkOk_by (own := [("to", 6)]) (N := ["own", "ticks", "value", "at", "ends", "tick", "to"]) (sc := defScope s__law_is_due) (by decide +kernel)) (fun _ _ _ _ _ => (pg_name (i := 6) sc__law_is_due.nd rfl (Or.inl rfl))) (fun _ _ _ _ _ => (pts_one (pt_cmpR (op_ltU hr.units0) (pe_op op_subU (pe_ix ix_U (pv 2) (pv 6) (fun _ _ => rfl)) (pe_ix ix_U (pv 2) (pv 3) (fun _ _ => rfl))) (pe_op op_mulV (pe_op op_subU (pe_op op_addU (pe_op op_subU (pv 6) (pv 3)) pe_int) (pe_dget (hu1 hr) (pv 0) pe_str (fun _ _ => rfl))) (pe_dget (hu1 hr) (pv 0) pe_str (fun _ _ => rfl))) (nomark _)))) (fun _ _ _ _ _ => (pv 6))) (pe_lst pa_nil) (nomark _)) (pss_one (ps_ret pe_bl)) pss_nil))))
      (pss_cons (ps_set (i := 4) sc__law_is_due.nd rfl (by first | exact Or.inl rfl | exact Or.inr rfl) (pe_call (ok__law_l_ends T TBs) (hr.mono (by decide)) (by rfl) T.g__law_l_ends T.F__law_l_ends.kp T.b__law_l_ends .nil (pass_e (takes_of rfl rfl rfl rfl)) (pa_cons (pe_dget (hu1 hr) (pv 0) pe_str (fun _ _ => rfl)) (pa_cons (pe_dget (hu1 hr) (pv 0) pe_str (fun _ _ => rfl)) (pa_cons (pe_lc (own := [("tick", 5)]) rfl sc__law_is_due.nd (pi_seqU (pv 2)) (blkOk_by (own := [("tick", 5)]) (N := ["own", "ticks", "value", "at", "ends", "tick", "to"]) (sc := defScope s__law_is_due) (by decide +kernel)) (fun _ _ _ _ _ => (pg_name (i := 5) sc__law_is_due.nd rfl (Or.inl rfl))) (fun _ _ _ _ _ => pts_nil) (fun _ _ _ _ _ => (pe_call (ok__law_l_told T TBs) (hr.mono (by decide)) (by rfl) T.g__law_l_told T.F__law_l_told.kp T.b__law_l_told .nil passL (pa_cons (pe_dget (hu1 hr) (pv 0) pe_str (fun _ _ => rfl)) (pa_cons (pv 5) pa_nil))))) pa_nil)))))
      (pss_one (ps_ret (pe_cmpR op_geU (pe_op op_subU (pe_ix ix_U (pv 4) (pe_un un_negU pe_int) (fun _ _ => rfl)) (pe_ix ix_U (pv 2) (pe_un un_negU pe_int) (fun _ _ => rfl))) (pv 1) (nomark _))))))))
  · refine run_bodyS (n := 3) (by decide) (by rintro _ _ ⟨⟩ <;> rfl) h fun s o hR hv hE => ?_
    obtain ⟨v0, v1, v2, rfl⟩ := len3 hv
    cases hR with
    | tup h0 h1 => exact ⟨_, rd__law_is_due_tup h0 h1, .rt (Lv.leave (by walk_at "lv") rfl)⟩
    | oth h0 h1 => exact ⟨_, rd__law_is_due_oth h0 h1, .rt (Lv.leave (by walk_at "lv") rfl)⟩
theorem ok__law_near (T : Tx P K mg A) (TBs : TBs base mg A ∧ Dif A) : FnOk P w K mg base (L2.CX P w) 3 A.a__law_near A.fd__law_near ["dice", "value"] (spF K (R__law_near K A.C A.T)) := by
  refine T.F__law_near.okX sc__law_near (fun vs H Q E h => spf_len (by rintro _ _ ⟨⟩ <;> rfl) h) (fun cdv Ar outer s H vs Q E hr h => ⟨t__law_near K A.C A.T E, ?_, ?_⟩)
  · exact (pss_cons (ps_set (i := 2) sc__law_near.nd rfl (by first | exact Or.inl rfl | exact Or.inr rfl) (pe_call (ok__law_roll T TBs) (hr.mono (by decide)) (by rfl) T.g__law_roll T.F__law_roll.kp T.b__law_roll .nil (pass_e (takes_of rfl rfl rfl rfl)) (pa_cons (pv 0) (pa_cons (pe_op op_addU (pe_callB call_lenU (by rfl) T.n_len (by decide +kernel) (pa_cons (pv 1) pa_nil)) pe_int) pa_nil))))
      (pss_cons (ps_set (i := 3) sc__law_near.nd rfl (by first | exact Or.inl rfl | exact Or.inr rfl) (pe_call (ok__law_pick T TBs) (hr.mono (by decide)) (by rfl) T.g__law_pick T.F__law_pick.kp T.b__law_pick .nil (pass_e (takes_of rfl rfl rfl rfl)) (pa_cons (pv 0) (pa_cons (pe_lst (pa_cons pe_int (pa_cons (pe_un un_negU pe_int) (pa_cons pe_int (pa_cons pe_int pa_nil))))) pa_nil))))
      (pss_cons (ps_set (i := 4) sc__law_near.nd rfl (by first | exact Or.inl rfl | exact Or.inr rfl) (pe_op op_addU (pe_slice sl_U (pv 1) po_none (po_some (pv 2))) (pe_callTy call_tupU (by rfl) T.n_tuple (by decide +kernel) (pa_cons (pe_lc (own := [("tick", 5)]) rfl sc__law_near.nd (pi_seqU (pe_slice sl_U (pv 1) (po_some (pv 2)) po_none)) (blkOk_by (own := [("tick", 5)]) (N := ["dice", "value", "at", "by", "moved", "tick"]) (sc := defScope s__law_near) (by decide +kernel)) (fun _ _ _ _ _ => (pg_name (i := 5) sc__law_near.nd rfl (Or.inl rfl))) (fun _ _ _ _ _ => pts_nil) (fun _ _ _ _ _ => (pe_callB (call_maxU rfl) (by rfl) T.n_max (by decide +kernel) (pa_cons pe_int (pa_cons (pe_op op_addU (pv 5) (pv 3)) pa_nil))))) pa_nil))))
      (pss_one (ps_ret (pe_call (ok__law_pick T TBs) (hr.mono (by decide)) (by rfl) T.g__law_pick T.F__law_pick.kp T.b__law_pick .nil (pass_e (takes_of rfl rfl rfl rfl)) (pa_cons (pv 0) (pa_cons (pe_lst (pa_cons (pv 4) (pa_cons (pv 4) (pa_cons (pe_op op_addU (pe_slice sl_U (pv 1) po_none (po_some (pv 2))) (pe_slice sl_U (pv 1) (po_some (pe_op op_addU (pv 2) pe_int)) po_none)) (pa_cons (pe_slice sl_U (pv 1) (po_some (pv 2)) po_none) (pa_cons (pe_op op_addU (pe_op op_addU (pe_slice sl_U (pv 1) po_none (po_some (pv 2))) (pe_slice sl_U (pv 1) (po_some (pv 2)) (po_some (pe_op op_addU (pv 2) pe_int)))) (pe_slice sl_U (pv 1) (po_some (pv 2)) po_none)) (pa_cons (pe_revT (pv 1)) (pa_cons (pe_callTy call_listU (by rfl) T.n_list (by decide +kernel) (pa_cons (pv 1) pa_nil)) (pa_cons pe_non (pa_cons (pe_tup pa_nil) pa_nil)))))))))) pa_nil))))))))
  · refine run_bodyS (n := 2) (by decide) (by rintro _ _ ⟨⟩ <;> rfl) h fun s o hR hv hE => ?_
    obtain ⟨v0, v1, rfl⟩ := len2 hv
    cases hR with
    | mk h0 h1 h2 => obtain rfl := pin_at hE; exact ⟨_, rd__law_near h0 h1 h2, .rt (Lv.leave (by walk_at "lv") rfl)⟩
theorem ok__law_refuses (T : Tx P K mg A) (TBs : TBs base mg A ∧ Dif A) : FnOk P w K mg base (L2.CX P w) 11 A.a__law_refuses A.fd__law_refuses ["dice", "own"] (spF K (R__law_refuses K A.C A.T)) := by
  refine T.F__law_refuses.okX sc__law_refuses (fun vs H Q E h => spf_len (by rintro _ _ ⟨⟩ <;> rfl) h) (fun Ar outer s H vs Q E hr h => ⟨t__law_refuses K A.C A.T E, ?_, ?_⟩)
  · exact (pss_cons (ps_set (i := 3) sc__law_refuses.nd rfl (by first | exact Or.inl rfl | exact Or.inr rfl) (pe_call (ok__law_pick T TBs) (hr.mono (by decide)) (by rfl) T.g__law_pick T.F__law_pick.kp T.b__law_pick .nil (pass_e (takes_of rfl rfl rfl rfl)) (pa_cons (pv 0) (pa_cons (pe_lst (pa_cons (pe_un un_negU pe_int) (pa_cons pe_int (pa_cons pe_non (pa_cons pe_bl (pa_cons pe_str pa_nil)))))) pa_nil))))
      (pss_cons (ps_set (i := 2) sc__law_refuses.nd rfl (by first | exact Or.inl rfl | exact Or.inr rfl) (pe_lst (pa_cons (lam_ref (k := 8) T.F__law_refused sc__law_refused rfl T.x_BadArgument T.te_BadArgument rfl (by decide) rfl (Or.inl rfl) (fun _ _ _ _ _ _ => .all fun us hl => match us, hl with | [_], _ => rfl) T.g__law_refused (by rfl) TBs.1._law_refuses rfl (by first | exact List.mem_cons_self | decide +kernel) (fun p hp e => one_tab TBs.2.d (by first | exact List.mem_cons_self | exact List.mem_cons_of_mem _ List.mem_cons_self | exact List.mem_cons_of_mem _ (List.mem_cons_of_mem _ List.mem_cons_self) | decide +kernel) hp e) (hr.mono (by decide)) (lamS_by (sc := defScope s__law_refuses) (by decide +kernel)) rfl (fun _ _ _ _ _ => rfl) (by intro Ar outer s H E f c' hr; exact (pe_call (ok_waiting T TBs) (hr.mono (by decide)) (by rfl) T.g_waiting T.F_waiting.kp T.b_waiting .nil (pass_e (takes_of rfl rfl rfl rfl)) (pa_cons pe_int (pa_cons pe_int (pa_cons pe_int (pa_cons pe_int (pa_cons pe_int (pa_cons (pv 3) pa_nil))))))))) (pa_cons (lam_ref (k := 8) T.F__law_refused sc__law_refused rfl T.x_BadArgument T.te_BadArgument rfl (by decide) rfl (Or.inl rfl) (fun _ _ _ _ _ _ => .all fun us hl => match us, hl with | [_], _ => rfl) T.g__law_refused (by rfl) TBs.1._law_refuses rfl (by first | exact List.mem_cons_self | decide +kernel) (fun p hp e => one_tab TBs.2.d (by first | exact List.mem_cons_self | exact List.mem_cons_of_mem _ List.mem_cons_self | exact List.mem_cons_of_mem _ (List.mem_cons_of_mem _ List.mem_cons_self) | decide +kernel) hp e) (hr.mono (by decide)) (lamS_by (sc := defScope s__law_refuses) (by decide +kernel)) rfl (fun _ _ _ _ _ => rfl) (by intro Ar outer s H E f c' hr; exact (pe_call (ok_waiting T TBs) (hr.mono (by decide)) (by rfl) T.g_waiting T.F_waiting.kp T.b_waiting .nil (pass_e (takes_of rfl rfl rfl rfl)) (pa_cons pe_int (pa_cons pe_int (pa_cons pe_int (pa_cons pe_int (pa_cons pe_int (pa_cons (pv 3) pa_nil))))))))) (pa_cons (lam_ref (k := 8) T.F__law_refused sc__law_refused rfl T.x_BadArgument T.te_BadArgument rfl (by decide) rfl (Or.inl rfl) (fun _ _ _ _ _ _ => .all fun us hl => match us, hl with | [_], _ => rfl) T.g__law_refused (by rfl) TBs.1._law_refuses rfl (by first | exact List.mem_cons_self | decide +kernel) (fun p hp e => one_tab TBs.2.d (by first | exact List.mem_cons_self | exact List.mem_cons_of_mem _ List.mem_cons_self | exact List.mem_cons_of_mem _ (List.mem_cons_of_mem _ List.mem_cons_self) | decide +kernel) hp e) (hr.mono (by decide)) (lamS_by (sc := defScope s__law_refuses) (by decide +kernel)) rfl (fun _ _ _ _ _ => rfl) (by intro Ar outer s H E f c' hr; exact (pe_call (ok_waiting T TBs) (hr.mono (by decide)) (by rfl) T.g_waiting T.F_waiting.kp T.b_waiting .nil (pass_e (takes_of rfl rfl rfl rfl)) (pa_cons pe_int (pa_cons pe_int (pa_cons pe_int (pa_cons pe_int (pa_cons pe_int (pa_cons (pv 3) pa_nil))))))))) pa_nil)))))
      (pss_cons (ps_set (i := 2) sc__law_refuses.nd rfl (by first | exact Or.inl rfl | exact Or.inr rfl) (pe_op op_addU (pv 2) (pe_lst (pa_cons (lam_ref (k := 8) T.F__law_refused sc__law_refused rfl T.x_BadArgument T.te_BadArgument rfl (by decide) rfl (Or.inl rfl) (fun _ _ _ _ _ _ => .all fun us hl => match us, hl with | [_], _ => rfl) T.g__law_refused (by rfl) TBs.1._law_refuses rfl (by first | exact List.mem_cons_self | decide +kernel) (fun p hp e => one_tab TBs.2.d (by first | exact List.mem_cons_self | exact List.mem_cons_of_mem _ List.mem_cons_self | exact List.mem_cons_of_mem _ (List.mem_cons_of_mem _ List.mem_cons_self) | decide +kernel) hp e) (hr.mono (by decide)) (lamS_by (sc := defScope s__law_refuses) (by decide +kernel)) rfl (fun _ _ _ _ _ => rfl) (by intro Ar outer s H E f c' hr; exact (pe_call (ok_is_waiting T TBs) (hr.mono (by decide)) (by rfl) T.g_is_waiting T.F_is_waiting.kp T.b_is_waiting .nil (pass_e (takes_of rfl rfl rfl rfl)) (pa_cons pe_int (pa_cons pe_int (pa_cons pe_int (pa_cons pe_int (pa_cons pe_int (pa_cons (pv 3) (pa_cons pe_non pa_nil)))))))))) (pa_cons (lam_ref (k := 8) T.F__law_refused sc__law_refused rfl T.x_BadArgument T.te_BadArgument rfl (by decide) rfl (Or.inl rfl) (fun _ _ _ _ _ _ => .all fun us hl => match us, hl with | [_], _ => rfl) T.g__law_refused (by rfl) TBs.1._law_refuses rfl (by first | exact List.mem_cons_self | decide +kernel) (fun p hp e => one_tab TBs.2.d (by first | exact List.mem_cons_self | exact List.mem_cons_of_mem _ List.mem_cons_self | exact List.mem_cons_of_mem _ (List.mem_cons_of_mem _ List.mem_cons_self) | decide +kernel) hp e) (hr.mono (by decide)) (lamS_by (sc := defScope s__law_refuses) (by decide +kernel)) rfl (fun _ _ _ _ _ => rfl) (by intro Ar outer s H E f c' hr; exact (pe_call (ok_is_waiting T TBs) (hr.mono (by decide)) (by rfl) T.g_is_waiting T.F_is_waiting.kp T.b_is_waiting .nil (pass_e (takes_of rfl rfl rfl rfl)) (pa_cons pe_int (pa_cons pe_int (pa_cons pe_int (pa_cons pe_int (pa_cons pe_int (pa_cons (pv 3) (pa_cons pe_non pa_nil)))))))))) pa_nil)))))
      (pss_one (ps_ret (pe_cmpR (op_eqU hr.units) (pe_op op_addU (pv 2) (pe_lst (pa_cons (lam_ref (k := 8) T.F__law_refused sc__law_refused rfl T.x_BadArgument T.te_BadArgument rfl (by decide) rfl (Or.inl rfl) (fun _ _ _ _ _ _ => .all fun us hl => match us, hl with | [_], _ => rfl) T.g__law_refused (by rfl) TBs.1._law_refuses rfl (by first | exact List.mem_cons_self | decide +kernel) (fun p hp e => one_tab TBs.2.d (by first | exact List.mem_cons_self | exact List.mem_cons_of_mem _ List.mem_cons_self | exact List.mem_cons_of_mem _ (List.mem_cons_of_mem _ List.mem_cons_self) | decide +kernel) hp e) (hr.mono (by decide)) (lamS_by (sc := defScope s__law_refuses) (by decide +kernel)) rfl (fun _ _ _ _ _ => rfl) (by intro Ar outer s H E f c' hr; exact (pe_call (ok_is_waiting T TBs) (hr.mono (by decide)) (by rfl) T.g_is_waiting T.F_is_waiting.kp T.b_is_waiting .nil (pass_e (takes_of rfl rfl rfl rfl)) (pa_cons pe_int (pa_cons pe_int (pa_cons pe_int (pa_cons pe_int (pa_cons pe_int (pa_cons (pv 3) (pa_cons (pe_tup pa_nil) pa_nil)))))))))) pa_nil))) (pe_lst (pa_cons pe_str (pa_cons pe_str (pa_cons pe_str (pa_cons pe_str (pa_cons pe_str (pa_cons pe_str pa_nil))))))) (nomark _)))))))
  · refine run_bodyS (n := 2) (by decide) (by rintro _ _ ⟨⟩ <;> rfl) h fun s o hR hv hE => ?_
    obtain ⟨v0, v1, rfl⟩ := len2 hv
    cases hR with
    | mk h0 h1 => obtain rfl := pin_at hE; exact ⟨_, rd__law_refuses h0 h1, .rt (Lv.leave (by walk_at "lv") rfl)⟩
theorem ok__law_right (T : Tx P K mg A) (TBs : TBs base mg A ∧ Dif A) : FnOk P w K mg base (L2.CX P w) 12 A.a__law_right A.fd__law_right ["dice"] (spF K (R__law_right K A.C A.T)) := by
  refine T.F__law_right.okX sc__law_right (fun vs H Q E h => spf_len (by rintro _ _ ⟨⟩ <;> rfl) h) (fun cdv Ar outer s H vs Q E hr h => ⟨t__law_right K A.C A.T E, ?_, ?_⟩)
  · exact (pss_cons (ps_set (i := 1) sc__law_right.nd rfl (by first | exact Or.inl rfl | exact Or.inr rfl) (pe_ifExp (pt_cmpR (op_eqU hr.units) (pe_call (ok__law_roll T TBs) (hr.mono (by decide)) (by rfl) T.g__law_roll T.F__law_roll.kp T.b__law_roll .nil (pass_e (takes_of rfl rfl rfl rfl)) (pa_cons (pv 0) (pa_cons pe_int pa_nil))) pe_int (nomark _)) (pe_call (ok__law_l_wide T TBs) (hr.mono (by decide)) (by rfl) T.g__law_l_wide T.F__law_l_wide.kp T.b__law_l_wide .nil (pass_e (takes_of rfl rfl rfl rfl)) (pa_cons (pv 0) pa_nil)) (pe_call (ok__law_l_choices T TBs) (hr.mono (by decide)) (by rfl) T.g__law_l_choices T.F__law_l_choices.kp T.b__law_l_choices .nil (pass_e (takes_of rfl rfl rfl rfl)) (pa_cons (pv 0) pa_nil))))
      (pss_cons (ps_asg (pe_tup (pa_cons (pe_dget (hu1 hr) (pv 1) pe_str (fun _ _ => rfl)) (pa_cons (pe_dget (hu1 hr) (pv 1) pe_str (fun _ _ => rfl)) (pa_cons (pe_dget (hu1 hr) (pv 1) pe_str (fun _ _ => rfl)) (pa_cons (pe_dget (hu1 hr) (pv 1) pe_str (fun _ _ => rfl)) (pa_cons (pe_dget (hu1 hr) (pv 1) pe_str (fun _ _ => rfl)) pa_nil)))))) (pg_tup rfl (pgs_cons (pg_name (i := 2) sc__law_right.nd rfl (by first | exact Or.inl rfl | exact Or.inr rfl)) (pgs_cons (pg_name (i := 3) sc__law_right.nd rfl (by first | exact Or.inl rfl | exact Or.inr rfl)) (pgs_cons (pg_name (i := 4) sc__law_right.nd rfl (by first | exact Or.inl rfl | exact Or.inr rfl)) (pgs_cons (pg_name (i := 5) sc__law_right.nd rfl (by first | exact Or.inl rfl | exact Or.inr rfl)) (pgs_cons (pg_name (i := 6) sc__law_right.nd rfl (by first | exact Or.inl rfl | exact Or.inr rfl)) pgs_nil)))))))
      (pss_cons (ps_set (i := 7) sc__law_right.nd rfl (by first | exact Or.inl rfl | exact Or.inr rfl) (pe_call (ok__law_l_delay T TBs) (hr.mono (by decide)) (by rfl) T.g__law_l_delay T.F__law_l_delay.kp T.b__law_l_delay .nil (pass_e (takes_of rfl rfl rfl rfl)) (pa_cons (pv 1) (pa_cons (pv 5) pa_nil))))
      (pss_cons (ps_set (i := 8) sc__law_right.nd rfl (by first | exact Or.inl rfl | exact Or.inr rfl) (pe_ifExp (pt_cmpR op_isU (pv 7) pe_non (nomark _)) (pe_call (ok__law_roll T TBs) (hr.mono (by decide)) (by rfl) T.g__law_roll T.F__law_roll.kp T.b__law_roll .nil (pass_e (takes_of rfl rfl rfl rfl)) (pa_cons (pv 0) (pa_cons pe_int pa_nil))) (pe_callB (call_minU rfl) (by rfl) T.n_min (by decide +kernel) (pa_cons pe_int (pa_cons (pe_callB (call_maxU rfl) (by rfl) T.n_max (by decide +kernel) (pa_cons pe_int (pa_cons (pe_op op_addU (pv 7) (pe_call (ok__law_pick T TBs) (hr.mono (by decide)) (by rfl) T.g__law_pick T.F__law_pick.kp T.b__law_pick .nil (pass_e (takes_of rfl rfl rfl rfl)) (pa_cons (pv 0) (pa_cons (pe_lst (pa_cons (pe_un un_negU pe_int) (pa_cons (pe_un un_negU pe_int) (pa_cons pe_int (pa_cons pe_int (pa_cons pe_int pa_nil)))))) pa_nil)))) pa_nil))) pa_nil)))))
      (pss_cons (ps_set (i := 9) sc__law_right.nd rfl (by first | exact Or.inl rfl | exact Or.inr rfl) (pe_callM0 (ok_waiting T TBs) (hr.mono (by decide)) (by rfl) T.g_waiting T.F_waiting.kp T.kw_waiting_0_ticks_gap_burst_every_work_crews (pass_e (takes_of rfl rfl rfl rfl)) (pk_cons (pv 8) (pk_cons (pv 6) (pk_cons (pv 5) (pk_cons (pv 4) (pk_cons (pv 3) (pk_cons (pv 2) pk_nil))))))))
      (pss_cons (ps_if (PW.pt (pw_or (pt_cmpR (op_neU hr.units) (pe_cmpR op_isU (pv 9) pe_non (nomark _)) (pe_and (pe_cmpR op_isnU (pv 7) pe_non (nomark _)) (pe_one (pe_cmpR (op_ltU hr.units0) (pv 7) (pv 8) (nomark _)))) (nomark _)) (pw_or1 (PW.pt (pw_and (pt_cmpR op_isnU (pv 9) pe_non (nomark _)) (pw_and1 (pt_not (pt_val (pe_call (ok__law_is_due T TBs) (hr.mono (by decide)) (by rfl) T.g__law_is_due T.F__law_is_due.kp T.b__law_is_due .nil (pass_e (takes_of rfl rfl rfl rfl)) (pa_cons (pv 1) (pa_cons (pv 8) (pa_cons (pv 9) pa_nil)))))))))))) (pss_one (ps_ret pe_bl)) pss_nil)
      (pss_cons (ps_set (i := 10) sc__law_right.nd rfl (by first | exact Or.inl rfl | exact Or.inr rfl) (pe_ifExp (PW.pt (pw_and (pt_cmpR op_isnU (pv 9) pe_non (nomark _)) (pw_and1 (pt_cmpR (op_ltU hr.units0) (pe_callB call_lenU (by rfl) T.n_len (by decide +kernel) (pa_cons (pv 9) pa_nil)) pe_int (nomark _))))) (pv 9) (pe_tup (pa_cons pe_int (pa_cons pe_int (pa_cons pe_int (pa_cons pe_int pa_nil)))))))
      (pss_cons (ps_for (passes_of rfl) rfl (pi_range1 (by rfl) T.n_range (pa_cons pe_int pa_nil)) (pg_name (i := 11) sc__law_right.nd rfl (by first | exact Or.inl rfl | exact Or.inr rfl)) (pss_cons (ps_set (i := 12) sc__law_right.nd rfl (by first | exact Or.inl rfl | exact Or.inr rfl) (pe_call (ok__law_near T TBs) (hr.mono (by decide)) (by rfl) T.g__law_near T.F__law_near.kp T.b__law_near .nil (pass_e (takes_of rfl rfl rfl rfl)) (pa_cons (pv 0) (pa_cons (pv 10) pa_nil))))
      (pss_cons (ps_if (pt_cmpR (op_neU hr.units) (pe_call (ok_is_waiting T TBs) (hr.mono (by decide)) (by rfl) T.g_is_waiting T.F_is_waiting.kp T.b_is_waiting .nil (pass_e (takes_of rfl rfl rfl rfl)) (pa_cons (pv 2) (pa_cons (pv 3) (pa_cons (pv 4) (pa_cons (pv 5) (pa_cons (pv 6) (pa_cons (pv 8) (pa_cons (pv 12) pa_nil)))))))) (pe_call (ok__law_is_due T TBs) (hr.mono (by decide)) (by rfl) T.g__law_is_due T.F__law_is_due.kp T.b__law_is_due .nil (pass_e (takes_of rfl rfl rfl rfl)) (pa_cons (pv 1) (pa_cons (pv 8) (pa_cons (pv 12) pa_nil)))) (nomark _)) (pss_one (ps_ret pe_bl)) pss_nil)
      (pss_one (ps_if (pt_cmpR (op_neU hr.units) (pe_callM (ok_is_waiting T TBs) (hr.mono (by decide)) (by rfl) T.g_is_waiting T.F_is_waiting.kp T.kw_is_waiting_6_value (pass_e (takes_of rfl rfl rfl rfl)) (pa_cons (pv 2) (pa_cons (pv 3) (pa_cons (pv 4) (pa_cons (pv 5) (pa_cons (pv 6) (pa_cons pe_int pa_nil)))))) (pk_cons (pv 12) pk_nil)) (pe_call (ok__law_is_due T TBs) (hr.mono (by decide)) (by rfl) T.g__law_is_due T.F__law_is_due.kp T.b__law_is_due .nil (pass_e (takes_of rfl rfl rfl rfl)) (pa_cons (pv 1) (pa_cons pe_int (pa_cons (pv 12) pa_nil)))) (nomark _)) (pss_one (ps_ret pe_bl)) pss_nil)))))
      (pss_one (ps_ret (pe_and (pe_cmpR (op_eqU hr.units) (pe_call (ok_is_waiting T TBs) (hr.mono (by decide)) (by rfl) T.g_is_waiting T.F_is_waiting.kp T.b_is_waiting .nil (pass_e (takes_of rfl rfl rfl rfl)) (pa_cons (pv 2) (pa_cons (pv 3) (pa_cons (pv 4) (pa_cons (pv 5) (pa_cons (pv 6) (pa_cons (pv 8) (pa_cons (pv 9) pa_nil)))))))) (pe_cmpR op_isnU (pv 9) pe_non (nomark _)) (nomark _)) (pe_one (pe_call (ok__law_refuses T TBs) (hr.mono (by decide)) (by rfl) T.g__law_refuses T.F__law_refuses.kp T.b__law_refuses .nil (pass_e (takes_of rfl rfl rfl rfl)) (pa_cons (pv 0) (pa_cons (pv 1) pa_nil)))))))))))))))
  · refine run_bodyS (n := 1) (by decide) (by rintro _ _ ⟨⟩ <;> rfl) h fun s o hR hv hE => ?_
    obtain ⟨v0, rfl⟩ := len1 hv
    cases hR with
    | mk h => obtain rfl := pin_at hE; exact ⟨_, rd__law_right h, .rt (Lv.leave (by walk_at "lv") rfl)⟩
theorem ok_law (T : Tx P K mg A) (TBs : TBs base mg A ∧ Dif A) : FnOk P w K mg base (L2.CX P w) 13 A.a_law A.fd_law ["script"] (spF K (R_law K A.C A.T)) := by
  refine T.F_law.okX sc_law (fun vs H Q E h => spf_len (by rintro _ _ ⟨⟩ <;> rfl) h) (fun cdv Ar outer s H vs Q E hr h => ⟨t_law K A.C A.T E, ?_, ?_⟩)
  · exact (pss_cons (ps_for (passes_of rfl) rfl (pi_range1 (by rfl) T.n_range (pa_cons (pe_callB (call_maxU rfl) (by rfl) T.n_max (by decide +kernel) (pa_cons pe_int (pa_cons (pe_callB (call_minU rfl) (by rfl) T.n_min (by decide +kernel) (pa_cons pe_int (pa_cons (pe_callB call_lenU (by rfl) T.n_len (by decide +kernel) (pa_cons (pv 0) pa_nil)) pa_nil))) pa_nil))) pa_nil)) (pg_name (i := 1) sc_law.nd rfl (by first | exact Or.inl rfl | exact Or.inr rfl)) (pss_one (ps_if (pt_not (pt_val (pe_call (ok__law_right T TBs) (hr.mono (by decide)) (by rfl) T.g__law_right T.F__law_right.kp T.b__law_right .nil (pass_e (takes_of rfl rfl rfl rfl)) (pa_cons (pe_call (ok__law_dice T TBs) (hr.mono (by decide)) (by rfl) T.g__law_dice T.F__law_dice.kp T.b__law_dice .nil (pass_e (takes_of rfl rfl rfl rfl)) (pa_cons (pv 0) (pa_cons (pv 1) pa_nil))) pa_nil)))) (pss_one (ps_ret pe_bl)) pss_nil)))
      (pss_one (ps_ret pe_bl)))
  · refine run_bodyS (n := 1) (by decide) (by rintro _ _ ⟨⟩ <;> rfl) h fun s o hR hv hE => ?_
    obtain ⟨v0, rfl⟩ := len1 hv
    cases hR with
    | mk h => exact ⟨_, rd_law h, .rt (Lv.leave (by walk_at "lv") rfl)⟩
end
theorem exm_self {K : PySem.W.Frag} {S : Addr} (h1 : PySem.W.subIn K (.ref S) (.type "BaseException") = some true) (h2 : PySem.W.isClsIn K S = true) (h3 : PySem.W.typeIn K (.ref S) = some (.type "type")) (h4 : PySem.W.subIn K (.ref S) (.ref S) = some true) : PySem.W.exmOne K (.ref S) (.ref S) = some true := by
  have e1 : (PySem.W.subIn K (.ref S) (.type "BaseException") == some true) = true := by rw [h1] <;> rfl
  have e2 : ((PySem.W.clsIn K S).isSome && PySem.W.typeIn K (.ref S) == some (.type "type")) = true := by
    have h2' : (PySem.W.clsIn K S).isSome = true := h2
    rw [h2', h3] <;> rfl
  show (if (PySem.W.subIn K (.ref S) (.type "BaseException") == some true) = true then (if ((PySem.W.clsIn K S).isSome && PySem.W.typeIn K (.ref S) == some (.type "type")) = true then PySem.W.subIn K (.ref S) (.ref S) else none) else none) = some true
  rw [if_pos e1, if_pos e2]
  exact h4
theorem all_mk {l : PySem.W.OpenLaw} {w : World} {K : PySem.W.Frag} {h : Heap} {mg : Str → Option Value} {fa : Addr} (X : K.In h) (G : h.Ns mainGlobals mg) (hfa : mg "law" = some (.ref fa)) {P : Program} (hP : P = l.prog)
    {C_BadArgument f_BadArgument cda_BadArgument cc_BadArgument N_BadArgument : Addr} {nm_BadArgument q_BadArgument : Str} {bs_BadArgument bm_BadArgument : List Value} {sn_BadArgument : List Str} {sub_BadArgument : List Value} {ab_BadArgument : Bool} {col_BadArgument : Option Bool} {dd_BadArgument : Option Addr} {k0_BadArgument k1_BadArgument k2_BadArgument k3_BadArgument k5_BadArgument : Option Value} {oc_BadArgument ccl_BadArgument ccc_BadArgument ct_BadArgument doc_BadArgument pm_BadArgument : Value} {od_BadArgument cdd_BadArgument ccd_BadArgument an_BadArgument : Option Addr} {osl_BadArgument ccs_BadArgument ccv_BadArgument : Array (Option Value)} {vs_BadArgument : Array Value} {fi_BadArgument ql_BadArgument : Str} {tf_BadArgument : Tok} {p1_BadArgument p2_BadArgument pa_BadArgument pb_BadArgument pc_BadArgument pd_BadArgument pe_BadArgument pf_BadArgument pg_BadArgument ph_BadArgument pi_BadArgument pj_BadArgument : Pos}
    {a_is_integer : Addr} {od_is_integer an_is_integer : Option Addr} {oc_is_integer kV_is_integer dc_is_integer pm_is_integer ct_is_integer cd_is_integer : Value} {sl_is_integer : Array (Option Value)}
    {a_is_in : Addr} {od_is_in an_is_in : Option Addr} {oc_is_in kV_is_in dc_is_in pm_is_in ct_is_in cd_is_in : Value} {sl_is_in : Array (Option Value)}
    {a_is_tick : Addr} {od_is_tick an_is_tick : Option Addr} {oc_is_tick kV_is_tick dc_is_tick pm_is_tick ct_is_tick cd_is_tick : Value} {sl_is_tick : Array (Option Value)}
    {a_are_at_most : Addr} {od_are_at_most an_are_at_most : Option Addr} {oc_are_at_most kV_are_at_most dc_are_at_most pm_are_at_most ct_are_at_most cd_are_at_most : Value} {sl_are_at_most : Array (Option Value)}
    {a_demand : Addr} {od_demand an_demand : Option Addr} {oc_demand kV_demand dc_demand pm_demand ct_demand cd_demand : Value} {sl_demand : Array (Option Value)}
    {a_are_times : Addr} {od_are_times an_are_times : Option Addr} {oc_are_times kV_are_times dc_are_times pm_are_times ct_are_times cd_are_times : Value} {sl_are_times : Array (Option Value)}
    {a_serve : Addr} {od_serve an_serve : Option Addr} {oc_serve kV_serve dc_serve pm_serve ct_serve cd_serve : Value} {sl_serve : Array (Option Value)}
    {a_finish_all : Addr} {od_finish_all an_finish_all : Option Addr} {oc_finish_all kV_finish_all dc_finish_all pm_finish_all ct_finish_all cd_finish_all : Value} {sl_finish_all : Array (Option Value)}
    {a_read_at : Addr} {od_read_at an_read_at : Option Addr} {oc_read_at kV_read_at dc_read_at pm_read_at ct_read_at cd_read_at : Value} {sl_read_at : Array (Option Value)}
    {a_are_kept : Addr} {od_are_kept an_are_kept : Option Addr} {oc_are_kept kV_are_kept dc_are_kept pm_are_kept ct_are_kept cd_are_kept : Value} {sl_are_kept : Array (Option Value)}
    {a_wait_all : Addr} {od_wait_all an_wait_all : Option Addr} {oc_wait_all kV_wait_all dc_wait_all pm_wait_all ct_wait_all cd_wait_all : Value} {sl_wait_all : Array (Option Value)}
    {a_period_of : Addr} {od_period_of an_period_of : Option Addr} {oc_period_of kV_period_of dc_period_of pm_period_of ct_period_of cd_period_of : Value} {sl_period_of : Array (Option Value)}
    {a_lead_period : Addr} {od_lead_period an_lead_period : Option Addr} {oc_lead_period kV_lead_period dc_lead_period pm_lead_period ct_lead_period cd_lead_period : Value} {sl_lead_period : Array (Option Value)}
    {a_busy_at : Addr} {od_busy_at an_busy_at : Option Addr} {oc_busy_at kV_busy_at dc_busy_at pm_busy_at ct_busy_at cd_busy_at : Value} {sl_busy_at : Array (Option Value)}
    {a_burst_wait : Addr} {od_burst_wait an_burst_wait : Option Addr} {oc_burst_wait kV_burst_wait dc_burst_wait pm_burst_wait ct_burst_wait cd_burst_wait : Value} {sl_burst_wait : Array (Option Value)}
    {a_delay_of : Addr} {od_delay_of an_delay_of : Option Addr} {oc_delay_of kV_delay_of dc_delay_of pm_delay_of ct_delay_of cd_delay_of : Value} {sl_delay_of : Array (Option Value)}
    {a_demand_all : Addr} {od_demand_all an_demand_all : Option Addr} {oc_demand_all kV_demand_all dc_demand_all pm_demand_all ct_demand_all cd_demand_all : Value} {sl_demand_all : Array (Option Value)}
    {a_dark_of : Addr} {od_dark_of an_dark_of : Option Addr} {oc_dark_of kV_dark_of dc_dark_of pm_dark_of ct_dark_of cd_dark_of : Value} {sl_dark_of : Array (Option Value)}
    {a_times_ahead : Addr} {od_times_ahead an_times_ahead : Option Addr} {oc_times_ahead kV_times_ahead dc_times_ahead pm_times_ahead ct_times_ahead cd_times_ahead : Value} {sl_times_ahead : Array (Option Value)}
    {a_faults_for : Addr} {od_faults_for an_faults_for : Option Addr} {oc_faults_for kV_faults_for dc_faults_for pm_faults_for ct_faults_for cd_faults_for : Value} {sl_faults_for : Array (Option Value)}
    {a_waiting : Addr} {od_waiting an_waiting : Option Addr} {oc_waiting kV_waiting dc_waiting pm_waiting ct_waiting cd_waiting : Value} {sl_waiting : Array (Option Value)}
    {a_is_waiting : Addr} {od_is_waiting an_is_waiting : Option Addr} {oc_is_waiting kV_is_waiting dc_is_waiting pm_is_waiting ct_is_waiting cd_is_waiting : Value} {sl_is_waiting : Array (Option Value)}
    {a__law_dice : Addr} {od__law_dice an__law_dice : Option Addr} {oc__law_dice kV__law_dice dc__law_dice pm__law_dice ct__law_dice cd__law_dice : Value} {sl__law_dice : Array (Option Value)}
    {a__law_roll : Addr} {od__law_roll an__law_roll : Option Addr} {oc__law_roll kV__law_roll dc__law_roll pm__law_roll ct__law_roll cd__law_roll : Value} {sl__law_roll : Array (Option Value)}
    {a__law_pick : Addr} {od__law_pick an__law_pick : Option Addr} {oc__law_pick kV__law_pick dc__law_pick pm__law_pick ct__law_pick cd__law_pick : Value} {sl__law_pick : Array (Option Value)}
    {a__law_refused : Addr} {od__law_refused an__law_refused : Option Addr} {oc__law_refused kV__law_refused dc__law_refused pm__law_refused ct__law_refused cd__law_refused : Value} {sl__law_refused : Array (Option Value)}
    {a__law_l_choices : Addr} {od__law_l_choices an__law_l_choices : Option Addr} {oc__law_l_choices kV__law_l_choices dc__law_l_choices pm__law_l_choices ct__law_l_choices cd__law_l_choices : Value} {sl__law_l_choices : Array (Option Value)}
    {a__law_l_wide : Addr} {od__law_l_wide an__law_l_wide : Option Addr} {oc__law_l_wide kV__law_l_wide dc__law_l_wide pm__law_l_wide ct__law_l_wide cd__law_l_wide : Value} {sl__law_l_wide : Array (Option Value)}
    {a__law_l_ends : Addr} {od__law_l_ends an__law_l_ends : Option Addr} {oc__law_l_ends kV__law_l_ends dc__law_l_ends pm__law_l_ends ct__law_l_ends cd__law_l_ends : Value} {sl__law_l_ends : Array (Option Value)}
    {a__law_l_told : Addr} {od__law_l_told an__law_l_told : Option Addr} {oc__law_l_told kV__law_l_told dc__law_l_told pm__law_l_told ct__law_l_told cd__law_l_told : Value} {sl__law_l_told : Array (Option Value)}
    {a__law_l_delay : Addr} {od__law_l_delay an__law_l_delay : Option Addr} {oc__law_l_delay kV__law_l_delay dc__law_l_delay pm__law_l_delay ct__law_l_delay cd__law_l_delay : Value} {sl__law_l_delay : Array (Option Value)}
    {a__law_is_due : Addr} {od__law_is_due an__law_is_due : Option Addr} {oc__law_is_due kV__law_is_due dc__law_is_due pm__law_is_due ct__law_is_due cd__law_is_due : Value} {sl__law_is_due : Array (Option Value)}
    {a__law_near : Addr} {od__law_near an__law_near : Option Addr} {oc__law_near kV__law_near dc__law_near pm__law_near ct__law_near cd__law_near : Value} {sl__law_near : Array (Option Value)}
    {a__law_refuses : Addr} {od__law_refuses an__law_refuses : Option Addr} {oc__law_refuses kV__law_refuses dc__law_refuses pm__law_refuses ct__law_refuses : Value} {sl__law_refuses : Array (Option Value)}
    {c__law_refuses p__law_refuses : Addr} {oq__law_refuses : Value} {oe__law_refuses : Option Addr} {vs__law_refuses : Array Value} {os__law_refuses : Array (Option Value)}
    {a__law_right : Addr} {od__law_right an__law_right : Option Addr} {oc__law_right kV__law_right dc__law_right pm__law_right ct__law_right cd__law_right : Value} {sl__law_right : Array (Option Value)}
    {a_law : Addr} {od_law an_law : Option Addr} {oc_law kV_law dc_law pm_law ct_law cd_law : Value} {sl_law : Array (Option Value)}
    {v_MOST_BURST : Value}
    {v_MOST_GAP : Value}
    {v_MOST_TICK : Value}
    {v_MOST_WORK : Value}
    {v_MOST_EVERY : Value}
    {v_MOST_ASKED : Value}
    {v_MOST_TIMES : Value}
    {v_MOST_WAITING : Value}
    {v_MOST_CREWS : Value}
    (gC_BadArgument : PySem.W.nsIn K mainGlobals "BadArgument" = some (some (.ref C_BadArgument)))
    (cl_BadArgument : K.lookup C_BadArgument = some (excClassObj nm_BadArgument q_BadArgument C_BadArgument N_BadArgument bs_BadArgument bm_BadArgument true sn_BadArgument sub_BadArgument ab_BadArgument col_BadArgument dd_BadArgument k0_BadArgument k1_BadArgument k2_BadArgument k3_BadArgument k5_BadArgument "ValueError.__new__"))
    (rf_BadArgument : PySem.HandSPX.refsVE bm_BadArgument = true)
    (sa_BadArgument : PySem.W.findIn K (.ref C_BadArgument) "__setattr__" = some (some (.builtin "object.__setattr__")))
    (ga_BadArgument : PySem.W.findIn K (.ref C_BadArgument) "__getattribute__" = some (some (.builtin "BaseException.__getattribute__")))
    (gg_BadArgument : PySem.W.findIn K (.ref C_BadArgument) "__getattr__" = some none)
    (ex_BadArgument : PySem.W.subIn K (.ref C_BadArgument) (.type "BaseException") = some true)
    (hd_BadArgument : PySem.W.hasDictIn K C_BadArgument = true)
    (no_BadArgument : PySem.W.findIn K (.ref C_BadArgument) "name" = some none)
    (iC_BadArgument : PySem.W.findIn K (.ref C_BadArgument) "__init__" = some (some (.ref f_BadArgument)))
    (tC_BadArgument : PySem.W.typeIn K (.ref f_BadArgument) = some (.type "function"))
    (kC_BadArgument : PySem.W.keepIn K (.ref C_BadArgument) = true)
    (ty_BadArgument : PySem.W.typeIn K (.ref C_BadArgument) = some (.type "type"))
    (isC_BadArgument : PySem.W.isClsIn K C_BadArgument = true)
    (su_BadArgument : PySem.W.ks_superIn K C_BadArgument C_BadArgument "__init__" = some (some (.builtin "ValueError.__init__")))
    (sV_BadArgument : PySem.W.subIn K (.ref C_BadArgument) (.type "ValueError") = some true)
    (sC_BadArgument : PySem.W.subIn K (.ref C_BadArgument) (.ref C_BadArgument) = some true)
    (mC_BadArgument : PySem.W.mroIn K C_BadArgument (.ref C_BadArgument) = some true)
    (l_BadArgument : K.lookup f_BadArgument = some ⟨oc_BadArgument, od_BadArgument, .func (PySem.W.ksFn "__init__" ql_BadArgument (BX.iA "name" p1_BadArgument p2_BadArgument) (BX.iB "name" pa_BadArgument pb_BadArgument pc_BadArgument pd_BadArgument pe_BadArgument pf_BadArgument pg_BadArgument ph_BadArgument pi_BadArgument pj_BadArgument) (BX.iS "name") .none .none doc_BadArgument pm_BadArgument an_BadArgument (.ref cda_BadArgument) ct_BadArgument cc_BadArgument), osl_BadArgument⟩)
    (c_BadArgument : PySem.W.codeIn K (.ref cda_BadArgument) ql_BadArgument = true)
    (d_BadArgument : K.lookup cda_BadArgument = some ⟨ccl_BadArgument, cdd_BadArgument, .fields vs_BadArgument, ccs_BadArgument⟩)
    (e_BadArgument : vs_BadArgument[2]? = some (.str fi_BadArgument tf_BadArgument))
    (ff_BadArgument : ((P.main.file : Str) == fi_BadArgument) = true)
    (cc__BadArgument : K.lookup cc_BadArgument = some ⟨ccc_BadArgument, ccd_BadArgument, .cell (some (.ref C_BadArgument)), ccv_BadArgument⟩)
    (ln_BadArgument : (pc_BadArgument.endLine == pe_BadArgument.line) = true)
    (sup : PySem.W.nsIn K mainGlobals "super" = some none)
    (any : PySem.W.nsIn K cStatics "thirdparty.any" = some none)
    (tsup : (P.main.scope.names.lookup ("super" : Str)).isSome = false)
    (n_abs : PySem.W.nsIn K mainGlobals "abs" = some none)
    (n_all : PySem.W.nsIn K mainGlobals "all" = some none)
    (n_bool : PySem.W.nsIn K mainGlobals "bool" = some none)
    (n_int : PySem.W.nsIn K mainGlobals "int" = some none)
    (n_isinstance : PySem.W.nsIn K mainGlobals "isinstance" = some none)
    (n_len : PySem.W.nsIn K mainGlobals "len" = some none)
    (n_list : PySem.W.nsIn K mainGlobals "list" = some none)
    (n_max : PySem.W.nsIn K mainGlobals "max" = some none)
    (n_min : PySem.W.nsIn K mainGlobals "min" = some none)
    (n_range : PySem.W.nsIn K mainGlobals "range" = some none)
    (n_sorted : PySem.W.nsIn K mainGlobals "sorted" = some none)
    (n_tuple : PySem.W.nsIn K mainGlobals "tuple" = some none)
    (n_zip : PySem.W.nsIn K mainGlobals "zip" = some none)
    (ga_is_integer : PySem.W.nsIn K mainGlobals "is_integer" = some (some (.ref a_is_integer)))
    (l_is_integer : K.lookup a_is_integer = some ⟨oc_is_integer, od_is_integer, .func (PySem.W.fnOf "is_integer" "is_integer" (defArgs s_is_integer) (defBody s_is_integer) (defScope s_is_integer) .none kV_is_integer dc_is_integer pm_is_integer an_is_integer cd_is_integer ct_is_integer), sl_is_integer⟩)
    (ci_is_integer : PySem.W.codeIn K cd_is_integer "is_integer" = true)
    (k_is_integer : PySem.W.keepIn K (.ref a_is_integer) = true)
    (ga_is_in : PySem.W.nsIn K mainGlobals "is_in" = some (some (.ref a_is_in)))
    (l_is_in : K.lookup a_is_in = some ⟨oc_is_in, od_is_in, .func (PySem.W.fnOf "is_in" "is_in" (defArgs s_is_in) (defBody s_is_in) (defScope s_is_in) .none kV_is_in dc_is_in pm_is_in an_is_in cd_is_in ct_is_in), sl_is_in⟩)
    (ci_is_in : PySem.W.codeIn K cd_is_in "is_in" = true)
    (k_is_in : PySem.W.keepIn K (.ref a_is_in) = true)
    (ga_is_tick : PySem.W.nsIn K mainGlobals "is_tick" = some (some (.ref a_is_tick)))
    (l_is_tick : K.lookup a_is_tick = some ⟨oc_is_tick, od_is_tick, .func (PySem.W.fnOf "is_tick" "is_tick" (defArgs s_is_tick) (defBody s_is_tick) (defScope s_is_tick) .none kV_is_tick dc_is_tick pm_is_tick an_is_tick cd_is_tick ct_is_tick), sl_is_tick⟩)
    (ci_is_tick : PySem.W.codeIn K cd_is_tick "is_tick" = true)
    (k_is_tick : PySem.W.keepIn K (.ref a_is_tick) = true)
    (ga_are_at_most : PySem.W.nsIn K mainGlobals "are_at_most" = some (some (.ref a_are_at_most)))
    (l_are_at_most : K.lookup a_are_at_most = some ⟨oc_are_at_most, od_are_at_most, .func (PySem.W.fnOf "are_at_most" "are_at_most" (defArgs s_are_at_most) (defBody s_are_at_most) (defScope s_are_at_most) .none kV_are_at_most dc_are_at_most pm_are_at_most an_are_at_most cd_are_at_most ct_are_at_most), sl_are_at_most⟩)
    (ci_are_at_most : PySem.W.codeIn K cd_are_at_most "are_at_most" = true)
    (k_are_at_most : PySem.W.keepIn K (.ref a_are_at_most) = true)
    (ga_demand : PySem.W.nsIn K mainGlobals "demand" = some (some (.ref a_demand)))
    (l_demand : K.lookup a_demand = some ⟨oc_demand, od_demand, .func (PySem.W.fnOf "demand" "demand" (defArgs s_demand) (defBody s_demand) (defScope s_demand) .none kV_demand dc_demand pm_demand an_demand cd_demand ct_demand), sl_demand⟩)
    (ci_demand : PySem.W.codeIn K cd_demand "demand" = true)
    (k_demand : PySem.W.keepIn K (.ref a_demand) = true)
    (ga_are_times : PySem.W.nsIn K mainGlobals "are_times" = some (some (.ref a_are_times)))
    (l_are_times : K.lookup a_are_times = some ⟨oc_are_times, od_are_times, .func (PySem.W.fnOf "are_times" "are_times" (defArgs s_are_times) (defBody s_are_times) (defScope s_are_times) .none kV_are_times dc_are_times pm_are_times an_are_times cd_are_times ct_are_times), sl_are_times⟩)
    (ci_are_times : PySem.W.codeIn K cd_are_times "are_times" = true)
    (k_are_times : PySem.W.keepIn K (.ref a_are_times) = true)
    (ga_serve : PySem.W.nsIn K mainGlobals "serve" = some (some (.ref a_serve)))
    (l_serve : K.lookup a_serve = some ⟨oc_serve, od_serve, .func (PySem.W.fnOf "serve" "serve" (defArgs s_serve) (defBody s_serve) (defScope s_serve) .none kV_serve dc_serve pm_serve an_serve cd_serve ct_serve), sl_serve⟩)
    (ci_serve : PySem.W.codeIn K cd_serve "serve" = true)
    (k_serve : PySem.W.keepIn K (.ref a_serve) = true)
    (ga_finish_all : PySem.W.nsIn K mainGlobals "finish_all" = some (some (.ref a_finish_all)))
    (l_finish_all : K.lookup a_finish_all = some ⟨oc_finish_all, od_finish_all, .func (PySem.W.fnOf "finish_all" "finish_all" (defArgs s_finish_all) (defBody s_finish_all) (defScope s_finish_all) .none kV_finish_all dc_finish_all pm_finish_all an_finish_all cd_finish_all ct_finish_all), sl_finish_all⟩)
    (ci_finish_all : PySem.W.codeIn K cd_finish_all "finish_all" = true)
    (k_finish_all : PySem.W.keepIn K (.ref a_finish_all) = true)
    (ga_read_at : PySem.W.nsIn K mainGlobals "read_at" = some (some (.ref a_read_at)))
    (l_read_at : K.lookup a_read_at = some ⟨oc_read_at, od_read_at, .func (PySem.W.fnOf "read_at" "read_at" (defArgs s_read_at) (defBody s_read_at) (defScope s_read_at) .none kV_read_at dc_read_at pm_read_at an_read_at cd_read_at ct_read_at), sl_read_at⟩)
    (ci_read_at : PySem.W.codeIn K cd_read_at "read_at" = true)
    (k_read_at : PySem.W.keepIn K (.ref a_read_at) = true)
    (ga_are_kept : PySem.W.nsIn K mainGlobals "are_kept" = some (some (.ref a_are_kept)))
    (l_are_kept : K.lookup a_are_kept = some ⟨oc_are_kept, od_are_kept, .func (PySem.W.fnOf "are_kept" "are_kept" (defArgs s_are_kept) (defBody s_are_kept) (defScope s_are_kept) .none kV_are_kept dc_are_kept pm_are_kept an_are_kept cd_are_kept ct_are_kept), sl_are_kept⟩)
    (ci_are_kept : PySem.W.codeIn K cd_are_kept "are_kept" = true)
    (k_are_kept : PySem.W.keepIn K (.ref a_are_kept) = true)
    (ga_wait_all : PySem.W.nsIn K mainGlobals "wait_all" = some (some (.ref a_wait_all)))
    (l_wait_all : K.lookup a_wait_all = some ⟨oc_wait_all, od_wait_all, .func (PySem.W.fnOf "wait_all" "wait_all" (defArgs s_wait_all) (defBody s_wait_all) (defScope s_wait_all) .none kV_wait_all dc_wait_all pm_wait_all an_wait_all cd_wait_all ct_wait_all), sl_wait_all⟩)
    (ci_wait_all : PySem.W.codeIn K cd_wait_all "wait_all" = true)
    (k_wait_all : PySem.W.keepIn K (.ref a_wait_all) = true)
    (ga_period_of : PySem.W.nsIn K mainGlobals "period_of" = some (some (.ref a_period_of)))
    (l_period_of : K.lookup a_period_of = some ⟨oc_period_of, od_period_of, .func (PySem.W.fnOf "period_of" "period_of" (defArgs s_period_of) (defBody s_period_of) (defScope s_period_of) .none kV_period_of dc_period_of pm_period_of an_period_of cd_period_of ct_period_of), sl_period_of⟩)
    (ci_period_of : PySem.W.codeIn K cd_period_of "period_of" = true)
    (k_period_of : PySem.W.keepIn K (.ref a_period_of) = true)
    (ga_lead_period : PySem.W.nsIn K mainGlobals "lead_period" = some (some (.ref a_lead_period)))
    (l_lead_period : K.lookup a_lead_period = some ⟨oc_lead_period, od_lead_period, .func (PySem.W.fnOf "lead_period" "lead_period" (defArgs s_lead_period) (defBody s_lead_period) (defScope s_lead_period) .none kV_lead_period dc_lead_period pm_lead_period an_lead_period cd_lead_period ct_lead_period), sl_lead_period⟩)
    (ci_lead_period : PySem.W.codeIn K cd_lead_period "lead_period" = true)
    (k_lead_period : PySem.W.keepIn K (.ref a_lead_period) = true)
    (ga_busy_at : PySem.W.nsIn K mainGlobals "busy_at" = some (some (.ref a_busy_at)))
    (l_busy_at : K.lookup a_busy_at = some ⟨oc_busy_at, od_busy_at, .func (PySem.W.fnOf "busy_at" "busy_at" (defArgs s_busy_at) (defBody s_busy_at) (defScope s_busy_at) .none kV_busy_at dc_busy_at pm_busy_at an_busy_at cd_busy_at ct_busy_at), sl_busy_at⟩)
    (ci_busy_at : PySem.W.codeIn K cd_busy_at "busy_at" = true)
    (k_busy_at : PySem.W.keepIn K (.ref a_busy_at) = true)
    (ga_burst_wait : PySem.W.nsIn K mainGlobals "burst_wait" = some (some (.ref a_burst_wait)))
    (l_burst_wait : K.lookup a_burst_wait = some ⟨oc_burst_wait, od_burst_wait, .func (PySem.W.fnOf "burst_wait" "burst_wait" (defArgs s_burst_wait) (defBody s_burst_wait) (defScope s_burst_wait) .none kV_burst_wait dc_burst_wait pm_burst_wait an_burst_wait cd_burst_wait ct_burst_wait), sl_burst_wait⟩)
    (ci_burst_wait : PySem.W.codeIn K cd_burst_wait "burst_wait" = true)
    (k_burst_wait : PySem.W.keepIn K (.ref a_burst_wait) = true)
    (ga_delay_of : PySem.W.nsIn K mainGlobals "delay_of" = some (some (.ref a_delay_of)))
    (l_delay_of : K.lookup a_delay_of = some ⟨oc_delay_of, od_delay_of, .func (PySem.W.fnOf "delay_of" "delay_of" (defArgs s_delay_of) (defBody s_delay_of) (defScope s_delay_of) .none kV_delay_of dc_delay_of pm_delay_of an_delay_of cd_delay_of ct_delay_of), sl_delay_of⟩)
    (ci_delay_of : PySem.W.codeIn K cd_delay_of "delay_of" = true)
    (k_delay_of : PySem.W.keepIn K (.ref a_delay_of) = true)
    (ga_demand_all : PySem.W.nsIn K mainGlobals "demand_all" = some (some (.ref a_demand_all)))
    (l_demand_all : K.lookup a_demand_all = some ⟨oc_demand_all, od_demand_all, .func (PySem.W.fnOf "demand_all" "demand_all" (defArgs s_demand_all) (defBody s_demand_all) (defScope s_demand_all) .none kV_demand_all dc_demand_all pm_demand_all an_demand_all cd_demand_all ct_demand_all), sl_demand_all⟩)
    (ci_demand_all : PySem.W.codeIn K cd_demand_all "demand_all" = true)
    (k_demand_all : PySem.W.keepIn K (.ref a_demand_all) = true)
    (ga_dark_of : PySem.W.nsIn K mainGlobals "dark_of" = some (some (.ref a_dark_of)))
    (l_dark_of : K.lookup a_dark_of = some ⟨oc_dark_of, od_dark_of, .func (PySem.W.fnOf "dark_of" "dark_of" (defArgs s_dark_of) (defBody s_dark_of) (defScope s_dark_of) .none kV_dark_of dc_dark_of pm_dark_of an_dark_of cd_dark_of ct_dark_of), sl_dark_of⟩)
    (ci_dark_of : PySem.W.codeIn K cd_dark_of "dark_of" = true)
    (k_dark_of : PySem.W.keepIn K (.ref a_dark_of) = true)
    (ga_times_ahead : PySem.W.nsIn K mainGlobals "times_ahead" = some (some (.ref a_times_ahead)))
    (l_times_ahead : K.lookup a_times_ahead = some ⟨oc_times_ahead, od_times_ahead, .func (PySem.W.fnOf "times_ahead" "times_ahead" (defArgs s_times_ahead) (defBody s_times_ahead) (defScope s_times_ahead) .none kV_times_ahead dc_times_ahead pm_times_ahead an_times_ahead cd_times_ahead ct_times_ahead), sl_times_ahead⟩)
    (ci_times_ahead : PySem.W.codeIn K cd_times_ahead "times_ahead" = true)
    (k_times_ahead : PySem.W.keepIn K (.ref a_times_ahead) = true)
    (ga_faults_for : PySem.W.nsIn K mainGlobals "faults_for" = some (some (.ref a_faults_for)))
    (l_faults_for : K.lookup a_faults_for = some ⟨oc_faults_for, od_faults_for, .func (PySem.W.fnOf "faults_for" "faults_for" (defArgs s_faults_for) (defBody s_faults_for) (defScope s_faults_for) .none kV_faults_for dc_faults_for pm_faults_for an_faults_for cd_faults_for ct_faults_for), sl_faults_for⟩)
    (ci_faults_for : PySem.W.codeIn K cd_faults_for "faults_for" = true)
    (k_faults_for : PySem.W.keepIn K (.ref a_faults_for) = true)
    (ga_waiting : PySem.W.nsIn K mainGlobals "waiting" = some (some (.ref a_waiting)))
    (l_waiting : K.lookup a_waiting = some ⟨oc_waiting, od_waiting, .func (PySem.W.fnOf "waiting" "waiting" (defArgs s_waiting) (defBody s_waiting) (defScope s_waiting) .none kV_waiting dc_waiting pm_waiting an_waiting cd_waiting ct_waiting), sl_waiting⟩)
    (ci_waiting : PySem.W.codeIn K cd_waiting "waiting" = true)
    (k_waiting : PySem.W.keepIn K (.ref a_waiting) = true)
    (ga_is_waiting : PySem.W.nsIn K mainGlobals "is_waiting" = some (some (.ref a_is_waiting)))
    (l_is_waiting : K.lookup a_is_waiting = some ⟨oc_is_waiting, od_is_waiting, .func (PySem.W.fnOf "is_waiting" "is_waiting" (defArgs s_is_waiting) (defBody s_is_waiting) (defScope s_is_waiting) .none kV_is_waiting dc_is_waiting pm_is_waiting an_is_waiting cd_is_waiting ct_is_waiting), sl_is_waiting⟩)
    (ci_is_waiting : PySem.W.codeIn K cd_is_waiting "is_waiting" = true)
    (k_is_waiting : PySem.W.keepIn K (.ref a_is_waiting) = true)
    (ga__law_dice : PySem.W.nsIn K mainGlobals "_law_dice" = some (some (.ref a__law_dice)))
    (l__law_dice : K.lookup a__law_dice = some ⟨oc__law_dice, od__law_dice, .func (PySem.W.fnOf "_law_dice" "_law_dice" (defArgs s__law_dice) (defBody s__law_dice) (defScope s__law_dice) .none kV__law_dice dc__law_dice pm__law_dice an__law_dice cd__law_dice ct__law_dice), sl__law_dice⟩)
    (ci__law_dice : PySem.W.codeIn K cd__law_dice "_law_dice" = true)
    (k__law_dice : PySem.W.keepIn K (.ref a__law_dice) = true)
    (ga__law_roll : PySem.W.nsIn K mainGlobals "_law_roll" = some (some (.ref a__law_roll)))
    (l__law_roll : K.lookup a__law_roll = some ⟨oc__law_roll, od__law_roll, .func (PySem.W.fnOf "_law_roll" "_law_roll" (defArgs s__law_roll) (defBody s__law_roll) (defScope s__law_roll) .none kV__law_roll dc__law_roll pm__law_roll an__law_roll cd__law_roll ct__law_roll), sl__law_roll⟩)
    (ci__law_roll : PySem.W.codeIn K cd__law_roll "_law_roll" = true)
    (k__law_roll : PySem.W.keepIn K (.ref a__law_roll) = true)
    (ga__law_pick : PySem.W.nsIn K mainGlobals "_law_pick" = some (some (.ref a__law_pick)))
    (l__law_pick : K.lookup a__law_pick = some ⟨oc__law_pick, od__law_pick, .func (PySem.W.fnOf "_law_pick" "_law_pick" (defArgs s__law_pick) (defBody s__law_pick) (defScope s__law_pick) .none kV__law_pick dc__law_pick pm__law_pick an__law_pick cd__law_pick ct__law_pick), sl__law_pick⟩)
    (ci__law_pick : PySem.W.codeIn K cd__law_pick "_law_pick" = true)
    (k__law_pick : PySem.W.keepIn K (.ref a__law_pick) = true)
    (ga__law_refused : PySem.W.nsIn K mainGlobals "_law_refused" = some (some (.ref a__law_refused)))
    (l__law_refused : K.lookup a__law_refused = some ⟨oc__law_refused, od__law_refused, .func (PySem.W.fnOf "_law_refused" "_law_refused" (defArgs s__law_refused) (defBody s__law_refused) (defScope s__law_refused) .none kV__law_refused dc__law_refused pm__law_refused an__law_refused cd__law_refused ct__law_refused), sl__law_refused⟩)
    (ci__law_refused : PySem.W.codeIn K cd__law_refused "_law_refused" = true)
    (k__law_refused : PySem.W.keepIn K (.ref a__law_refused) = true)
    (ga__law_l_choices : PySem.W.nsIn K mainGlobals "_law_l_choices" = some (some (.ref a__law_l_choices)))
    (l__law_l_choices : K.lookup a__law_l_choices = some ⟨oc__law_l_choices, od__law_l_choices, .func (PySem.W.fnOf "_law_l_choices" "_law_l_choices" (defArgs s__law_l_choices) (defBody s__law_l_choices) (defScope s__law_l_choices) .none kV__law_l_choices dc__law_l_choices pm__law_l_choices an__law_l_choices cd__law_l_choices ct__law_l_choices), sl__law_l_choices⟩)
    (ci__law_l_choices : PySem.W.codeIn K cd__law_l_choices "_law_l_choices" = true)
    (k__law_l_choices : PySem.W.keepIn K (.ref a__law_l_choices) = true)
    (ga__law_l_wide : PySem.W.nsIn K mainGlobals "_law_l_wide" = some (some (.ref a__law_l_wide)))
    (l__law_l_wide : K.lookup a__law_l_wide = some ⟨oc__law_l_wide, od__law_l_wide, .func (PySem.W.fnOf "_law_l_wide" "_law_l_wide" (defArgs s__law_l_wide) (defBody s__law_l_wide) (defScope s__law_l_wide) .none kV__law_l_wide dc__law_l_wide pm__law_l_wide an__law_l_wide cd__law_l_wide ct__law_l_wide), sl__law_l_wide⟩)
    (ci__law_l_wide : PySem.W.codeIn K cd__law_l_wide "_law_l_wide" = true)
    (k__law_l_wide : PySem.W.keepIn K (.ref a__law_l_wide) = true)
    (ga__law_l_ends : PySem.W.nsIn K mainGlobals "_law_l_ends" = some (some (.ref a__law_l_ends)))
    (l__law_l_ends : K.lookup a__law_l_ends = some ⟨oc__law_l_ends, od__law_l_ends, .func (PySem.W.fnOf "_law_l_ends" "_law_l_ends" (defArgs s__law_l_ends) (defBody s__law_l_ends) (defScope s__law_l_ends) .none kV__law_l_ends dc__law_l_ends pm__law_l_ends an__law_l_ends cd__law_l_ends ct__law_l_ends), sl__law_l_ends⟩)
    (ci__law_l_ends : PySem.W.codeIn K cd__law_l_ends "_law_l_ends" = true)
    (k__law_l_ends : PySem.W.keepIn K (.ref a__law_l_ends) = true)
    (ga__law_l_told : PySem.W.nsIn K mainGlobals "_law_l_told" = some (some (.ref a__law_l_told)))
    (l__law_l_told : K.lookup a__law_l_told = some ⟨oc__law_l_told, od__law_l_told, .func (PySem.W.fnOf "_law_l_told" "_law_l_told" (defArgs s__law_l_told) (defBody s__law_l_told) (defScope s__law_l_told) .none kV__law_l_told dc__law_l_told pm__law_l_told an__law_l_told cd__law_l_told ct__law_l_told), sl__law_l_told⟩)
    (ci__law_l_told : PySem.W.codeIn K cd__law_l_told "_law_l_told" = true)
    (k__law_l_told : PySem.W.keepIn K (.ref a__law_l_told) = true)
    (ga__law_l_delay : PySem.W.nsIn K mainGlobals "_law_l_delay" = some (some (.ref a__law_l_delay)))
    (l__law_l_delay : K.lookup a__law_l_delay = some ⟨oc__law_l_delay, od__law_l_delay, .func (PySem.W.fnOf "_law_l_delay" "_law_l_delay" (defArgs s__law_l_delay) (defBody s__law_l_delay) (defScope s__law_l_delay) .none kV__law_l_delay dc__law_l_delay pm__law_l_delay an__law_l_delay cd__law_l_delay ct__law_l_delay), sl__law_l_delay⟩)
    (ci__law_l_delay : PySem.W.codeIn K cd__law_l_delay "_law_l_delay" = true)
    (k__law_l_delay : PySem.W.keepIn K (.ref a__law_l_delay) = true)
    (ga__law_is_due : PySem.W.nsIn K mainGlobals "_law_is_due" = some (some (.ref a__law_is_due)))
    (l__law_is_due : K.lookup a__law_is_due = some ⟨oc__law_is_due, od__law_is_due, .func (PySem.W.fnOf "_law_is_due" "_law_is_due" (defArgs s__law_is_due) (defBody s__law_is_due) (defScope s__law_is_due) .none kV__law_is_due dc__law_is_due pm__law_is_due an__law_is_due cd__law_is_due ct__law_is_due), sl__law_is_due⟩)
    (ci__law_is_due : PySem.W.codeIn K cd__law_is_due "_law_is_due" = true)
    (k__law_is_due : PySem.W.keepIn K (.ref a__law_is_due) = true)
    (ga__law_near : PySem.W.nsIn K mainGlobals "_law_near" = some (some (.ref a__law_near)))
    (l__law_near : K.lookup a__law_near = some ⟨oc__law_near, od__law_near, .func (PySem.W.fnOf "_law_near" "_law_near" (defArgs s__law_near) (defBody s__law_near) (defScope s__law_near) .none kV__law_near dc__law_near pm__law_near an__law_near cd__law_near ct__law_near), sl__law_near⟩)
    (ci__law_near : PySem.W.codeIn K cd__law_near "_law_near" = true)
    (k__law_near : PySem.W.keepIn K (.ref a__law_near) = true)
    (ga__law_refuses : PySem.W.nsIn K mainGlobals "_law_refuses" = some (some (.ref a__law_refuses)))
    (l__law_refuses : K.lookup a__law_refuses = some ⟨oc__law_refuses, od__law_refuses, .func (PySem.W.fnOf "_law_refuses" "_law_refuses" (defArgs s__law_refuses) (defBody s__law_refuses) (defScope s__law_refuses) .none kV__law_refuses dc__law_refuses pm__law_refuses an__law_refuses (.ref c__law_refuses) ct__law_refuses), sl__law_refuses⟩)
    (ci__law_refuses : PySem.W.codeIn K (.ref c__law_refuses) "_law_refuses" = true)
    (k__law_refuses : PySem.W.keepIn K (.ref a__law_refuses) = true)
    (lc__law_refuses : K.lookup c__law_refuses = some ⟨oq__law_refuses, oe__law_refuses, .fields vs__law_refuses, os__law_refuses⟩)
    (pc__law_refuses : vs__law_refuses[11]? = some (.ref p__law_refuses))
    (hd__law_refuses : PySem.W.codeHdIn K c__law_refuses p__law_refuses = true)
    (np__law_refuses : K.lookup p__law_refuses = none)
    (hp__law_refuses : h.get? p__law_refuses = some { cls := .none, data := .fields #[] })
    (ga__law_right : PySem.W.nsIn K mainGlobals "_law_right" = some (some (.ref a__law_right)))
    (l__law_right : K.lookup a__law_right = some ⟨oc__law_right, od__law_right, .func (PySem.W.fnOf "_law_right" "_law_right" (defArgs s__law_right) (defBody s__law_right) (defScope s__law_right) .none kV__law_right dc__law_right pm__law_right an__law_right cd__law_right ct__law_right), sl__law_right⟩)
    (ci__law_right : PySem.W.codeIn K cd__law_right "_law_right" = true)
    (k__law_right : PySem.W.keepIn K (.ref a__law_right) = true)
    (ga_law : PySem.W.nsIn K mainGlobals "law" = some (some (.ref a_law)))
    (l_law : K.lookup a_law = some ⟨oc_law, od_law, .func (PySem.W.fnOf "law" "law" (defArgs s_law) (defBody s_law) (defScope s_law) .none kV_law dc_law pm_law an_law cd_law ct_law), sl_law⟩)
    (ci_law : PySem.W.codeIn K cd_law "law" = true)
    (k_law : PySem.W.keepIn K (.ref a_law) = true)
    (cc_MOST_BURST : PySem.W.nsIn K mainGlobals "MOST_BURST" = some (some v_MOST_BURST))
    (cr_MOST_BURST : RelV (.int 6) v_MOST_BURST)
    (cc_MOST_GAP : PySem.W.nsIn K mainGlobals "MOST_GAP" = some (some v_MOST_GAP))
    (cr_MOST_GAP : RelV (.int 12) v_MOST_GAP)
    (cc_MOST_TICK : PySem.W.nsIn K mainGlobals "MOST_TICK" = some (some v_MOST_TICK))
    (cr_MOST_TICK : RelV (.int 10000) v_MOST_TICK)
    (cc_MOST_WORK : PySem.W.nsIn K mainGlobals "MOST_WORK" = some (some v_MOST_WORK))
    (cr_MOST_WORK : RelV (.int 12) v_MOST_WORK)
    (cc_MOST_EVERY : PySem.W.nsIn K mainGlobals "MOST_EVERY" = some (some v_MOST_EVERY))
    (cr_MOST_EVERY : RelV (.int 12) v_MOST_EVERY)
    (cc_MOST_ASKED : PySem.W.nsIn K mainGlobals "MOST_ASKED" = some (some v_MOST_ASKED))
    (cr_MOST_ASKED : RelV (.int 120) v_MOST_ASKED)
    (cc_MOST_TIMES : PySem.W.nsIn K mainGlobals "MOST_TIMES" = some (some v_MOST_TIMES))
    (cr_MOST_TIMES : RelV (.int 1000) v_MOST_TIMES)
    (cc_MOST_WAITING : PySem.W.nsIn K mainGlobals "MOST_WAITING" = some (some v_MOST_WAITING))
    (cr_MOST_WAITING : RelV (.int 600) v_MOST_WAITING)
    (cc_MOST_CREWS : PySem.W.nsIn K mainGlobals "MOST_CREWS" = some (some v_MOST_CREWS))
    (cr_MOST_CREWS : RelV (.int 4) v_MOST_CREWS)
    (dif : [p__law_refuses].Nodup) :
    LawAtS l w K (L2.CX P w) 13 63 "script" mg fa h := by
  subst hP
  have e := hfa.symm.trans (PySem.W.mg_of X G ga_law)
  have e2 : a_law = fa := by cases e; rfl
  subst e2
  have F_is_integer := fun_mk (st := s_is_integer) l_is_integer ci_is_integer k_is_integer
  have F_is_in := fun_mk (st := s_is_in) l_is_in ci_is_in k_is_in
  have F_is_tick := fun_mk (st := s_is_tick) l_is_tick ci_is_tick k_is_tick
  have F_are_at_most := fun_mk (st := s_are_at_most) l_are_at_most ci_are_at_most k_are_at_most
  have F_demand := fun_mk (st := s_demand) l_demand ci_demand k_demand
  have F_are_times := fun_mk (st := s_are_times) l_are_times ci_are_times k_are_times
  have F_serve := fun_mk (st := s_serve) l_serve ci_serve k_serve
  have F_finish_all := fun_mk (st := s_finish_all) l_finish_all ci_finish_all k_finish_all
  have F_read_at := fun_mk (st := s_read_at) l_read_at ci_read_at k_read_at
  have F_are_kept := fun_mk (st := s_are_kept) l_are_kept ci_are_kept k_are_kept
  have F_wait_all := fun_mk (st := s_wait_all) l_wait_all ci_wait_all k_wait_all
  have F_period_of := fun_mk (st := s_period_of) l_period_of ci_period_of k_period_of
  have F_lead_period := fun_mk (st := s_lead_period) l_lead_period ci_lead_period k_lead_period
  have F_busy_at := fun_mk (st := s_busy_at) l_busy_at ci_busy_at k_busy_at
  have F_burst_wait := fun_mk (st := s_burst_wait) l_burst_wait ci_burst_wait k_burst_wait
  have F_delay_of := fun_mk (st := s_delay_of) l_delay_of ci_delay_of k_delay_of
  have F_demand_all := fun_mk (st := s_demand_all) l_demand_all ci_demand_all k_demand_all
  have F_dark_of := fun_mk (st := s_dark_of) l_dark_of ci_dark_of k_dark_of
  have F_times_ahead := fun_mk (st := s_times_ahead) l_times_ahead ci_times_ahead k_times_ahead
  have F_faults_for := fun_mk (st := s_faults_for) l_faults_for ci_faults_for k_faults_for
  have F_waiting := fun_mk (st := s_waiting) l_waiting ci_waiting k_waiting
  have F_is_waiting := fun_mk (st := s_is_waiting) l_is_waiting ci_is_waiting k_is_waiting
  have F__law_dice := fun_mk (st := s__law_dice) l__law_dice ci__law_dice k__law_dice
  have F__law_roll := fun_mk (st := s__law_roll) l__law_roll ci__law_roll k__law_roll
  have F__law_pick := fun_mk (st := s__law_pick) l__law_pick ci__law_pick k__law_pick
  have F__law_refused := fun_mk (st := s__law_refused) l__law_refused ci__law_refused k__law_refused
  have F__law_l_choices := fun_mk (st := s__law_l_choices) l__law_l_choices ci__law_l_choices k__law_l_choices
  have F__law_l_wide := fun_mk (st := s__law_l_wide) l__law_l_wide ci__law_l_wide k__law_l_wide
  have F__law_l_ends := fun_mk (st := s__law_l_ends) l__law_l_ends ci__law_l_ends k__law_l_ends
  have F__law_l_told := fun_mk (st := s__law_l_told) l__law_l_told ci__law_l_told k__law_l_told
  have F__law_l_delay := fun_mk (st := s__law_l_delay) l__law_l_delay ci__law_l_delay k__law_l_delay
  have F__law_is_due := fun_mk (st := s__law_is_due) l__law_is_due ci__law_is_due k__law_is_due
  have F__law_near := fun_mk (st := s__law_near) l__law_near ci__law_near k__law_near
  have F__law_refuses := funC_mk (st := s__law_refuses) l__law_refuses ci__law_refuses k__law_refuses
  have F__law_right := fun_mk (st := s__law_right) l__law_right ci__law_right k__law_right
  have F_law := fun_mk (st := s_law) l_law ci_law k_law
  have T : Tx l.prog K mg { C := fun x => if x = "BadArgument" then C_BadArgument else 0, I_BadArgument := f_BadArgument, a_is_integer := a_is_integer, a_is_in := a_is_in, a_is_tick := a_is_tick, a_are_at_most := a_are_at_most, a_demand := a_demand, a_are_times := a_are_times, a_serve := a_serve, a_finish_all := a_finish_all, a_read_at := a_read_at, a_are_kept := a_are_kept, a_wait_all := a_wait_all, a_period_of := a_period_of, a_lead_period := a_lead_period, a_busy_at := a_busy_at, a_burst_wait := a_burst_wait, a_delay_of := a_delay_of, a_demand_all := a_demand_all, a_dark_of := a_dark_of, a_times_ahead := a_times_ahead, a_faults_for := a_faults_for, a_waiting := a_waiting, a_is_waiting := a_is_waiting, a__law_dice := a__law_dice, a__law_roll := a__law_roll, a__law_pick := a__law_pick, a__law_refused := a__law_refused, a__law_l_choices := a__law_l_choices, a__law_l_wide := a__law_l_wide, a__law_l_ends := a__law_l_ends, a__law_l_told := a__law_l_told, a__law_l_delay := a__law_l_delay, a__law_is_due := a__law_is_due, a__law_near := a__law_near, a__law_refuses := a__law_refuses, a__law_right := a__law_right, a_law := a_law, fd_is_integer := _, fd_is_in := _, fd_is_tick := _, fd_are_at_most := _, fd_demand := _, fd_are_times := _, fd_serve := _, fd_finish_all := _, fd_read_at := _, fd_are_kept := _, fd_wait_all := _, fd_period_of := _, fd_lead_period := _, fd_busy_at := _, fd_burst_wait := _, fd_delay_of := _, fd_demand_all := _, fd_dark_of := _, fd_times_ahead := _, fd_faults_for := _, fd_waiting := _, fd_is_waiting := _, fd__law_dice := _, fd__law_roll := _, fd__law_pick := _, fd__law_refused := _, fd__law_l_choices := _, fd__law_l_wide := _, fd__law_l_ends := _, fd__law_l_told := _, fd__law_l_delay := _, fd__law_is_due := _, fd__law_near := _, fd__law_refuses := _, fd__law_right := _, fd_law := _, c__law_refuses := c__law_refuses, p__law_refuses := p__law_refuses, v_MOST_BURST := v_MOST_BURST, v_MOST_GAP := v_MOST_GAP, v_MOST_TICK := v_MOST_TICK, v_MOST_WORK := v_MOST_WORK, v_MOST_EVERY := v_MOST_EVERY, v_MOST_ASKED := v_MOST_ASKED, v_MOST_TIMES := v_MOST_TIMES, v_MOST_WAITING := v_MOST_WAITING, v_MOST_CREWS := v_MOST_CREWS } := {
    x_BadArgument := { fo := BX.flName, gC := PySem.W.mg_of X G gC_BadArgument, sup := sup, any := any, top := tsup, cls := ⟨_, _, _, _, _, _, _, _, _, _, _, _, _, _, _, cl_BadArgument, rf_BadArgument⟩, sa := sa_BadArgument, xf := ⟨ga_BadArgument, gg_BadArgument, ex_BadArgument, hd_BadArgument⟩, noN := no_BadArgument, iC := iC_BadArgument, tC := tC_BadArgument, kC := kC_BadArgument, tyC := ty_BadArgument, sup2 := su_BadArgument, sVE := sV_BadArgument, sCC := mC_BadArgument, fn := ⟨_, _, _, _, _, _, _, _, _, _, _, _, _, _, _, _, _, _, _, _, _, _, _, _, _, _, _, _, _, _, _, l_BadArgument, c_BadArgument, d_BadArgument, e_BadArgument, ff_BadArgument, cc__BadArgument, ln_BadArgument⟩ }
    te_BadArgument := exm_self ex_BadArgument isC_BadArgument ty_BadArgument sC_BadArgument
    n_abs := PySem.W.mg_none_of X G n_abs
    n_all := PySem.W.mg_none_of X G n_all
    n_bool := PySem.W.mg_none_of X G n_bool
    n_int := PySem.W.mg_none_of X G n_int
    n_isinstance := PySem.W.mg_none_of X G n_isinstance
    n_len := PySem.W.mg_none_of X G n_len
    n_list := PySem.W.mg_none_of X G n_list
    n_max := PySem.W.mg_none_of X G n_max
    n_min := PySem.W.mg_none_of X G n_min
    n_range := PySem.W.mg_none_of X G n_range
    n_sorted := PySem.W.mg_none_of X G n_sorted
    n_tuple := PySem.W.mg_none_of X G n_tuple
    n_zip := PySem.W.mg_none_of X G n_zip
    g_is_integer := PySem.W.mg_of X G ga_is_integer
    F_is_integer := F_is_integer
    b_is_integer := F_is_integer.binds fun _ _ _ _ _ _ us hl => match us, hl with | [_], _ => rfl
    g_is_in := PySem.W.mg_of X G ga_is_in
    F_is_in := F_is_in
    b_is_in := F_is_in.binds fun _ _ _ _ _ _ us hl => match us, hl with | [_, _, _], _ => rfl
    g_is_tick := PySem.W.mg_of X G ga_is_tick
    F_is_tick := F_is_tick
    b_is_tick := F_is_tick.binds fun _ _ _ _ _ _ us hl => match us, hl with | [_], _ => rfl
    g_are_at_most := PySem.W.mg_of X G ga_are_at_most
    F_are_at_most := F_are_at_most
    b_are_at_most := F_are_at_most.binds fun _ _ _ _ _ _ us hl => match us, hl with | [_, _], _ => rfl
    g_demand := PySem.W.mg_of X G ga_demand
    F_demand := F_demand
    b_demand := F_demand.binds fun _ _ _ _ _ _ us hl => match us, hl with | [_, _], _ => rfl
    g_are_times := PySem.W.mg_of X G ga_are_times
    F_are_times := F_are_times
    b_are_times := F_are_times.binds fun _ _ _ _ _ _ us hl => match us, hl with | [_], _ => rfl
    g_serve := PySem.W.mg_of X G ga_serve
    F_serve := F_serve
    b_serve := F_serve.binds fun _ _ _ _ _ _ us hl => match us, hl with | [_, _, _], _ => rfl
    g_finish_all := PySem.W.mg_of X G ga_finish_all
    F_finish_all := F_finish_all
    b_finish_all := F_finish_all.binds fun _ _ _ _ _ _ us hl => match us, hl with | [_, _, _], _ => rfl
    g_read_at := PySem.W.mg_of X G ga_read_at
    F_read_at := F_read_at
    b_read_at := F_read_at.binds fun _ _ _ _ _ _ us hl => match us, hl with | [_, _], _ => rfl
    g_are_kept := PySem.W.mg_of X G ga_are_kept
    F_are_kept := F_are_kept
    b_are_kept := F_are_kept.binds fun _ _ _ _ _ _ us hl => match us, hl with | [_, _, _], _ => rfl
    g_wait_all := PySem.W.mg_of X G ga_wait_all
    F_wait_all := F_wait_all
    b_wait_all := F_wait_all.binds fun _ _ _ _ _ _ us hl => match us, hl with | [_, _, _, _], _ => rfl
    g_period_of := PySem.W.mg_of X G ga_period_of
    F_period_of := F_period_of
    b_period_of := F_period_of.binds fun _ _ _ _ _ _ us hl => match us, hl with | [_, _], _ => rfl
    g_lead_period := PySem.W.mg_of X G ga_lead_period
    F_lead_period := F_lead_period
    b_lead_period := F_lead_period.binds fun _ _ _ _ _ _ us hl => match us, hl with | [_, _, _, _, _], _ => rfl
    g_busy_at := PySem.W.mg_of X G ga_busy_at
    F_busy_at := F_busy_at
    b_busy_at := F_busy_at.binds fun _ _ _ _ _ _ us hl => match us, hl with | [_, _, _, _, _], _ => rfl
    g_burst_wait := PySem.W.mg_of X G ga_burst_wait
    F_burst_wait := F_burst_wait
    b_burst_wait := F_burst_wait.binds fun _ _ _ _ _ _ us hl => match us, hl with | [_, _, _, _, _, _], _ => rfl
    g_delay_of := PySem.W.mg_of X G ga_delay_of
    F_delay_of := F_delay_of
    b_delay_of := F_delay_of.binds fun _ _ _ _ _ _ us hl => match us, hl with | [_, _, _, _, _], _ => rfl
    g_demand_all := PySem.W.mg_of X G ga_demand_all
    F_demand_all := F_demand_all
    b_demand_all := F_demand_all.binds fun _ _ _ _ _ _ us hl => match us, hl with | [_, _, _, _, _], _ => rfl
    g_dark_of := PySem.W.mg_of X G ga_dark_of
    F_dark_of := F_dark_of
    b_dark_of := F_dark_of.binds fun _ _ _ _ _ _ us hl => match us, hl with | [_, _, _, _, _, _], _ => rfl
    g_times_ahead := PySem.W.mg_of X G ga_times_ahead
    F_times_ahead := F_times_ahead
    b_times_ahead := F_times_ahead.binds fun _ _ _ _ _ _ us hl => match us, hl with | [_, _, _, _, _, _], _ => rfl
    g_faults_for := PySem.W.mg_of X G ga_faults_for
    F_faults_for := F_faults_for
    b_faults_for := F_faults_for.binds fun _ _ _ _ _ _ us hl => match us, hl with | [_, _, _, _, _, _, _], _ => rfl
    g_waiting := PySem.W.mg_of X G ga_waiting
    F_waiting := F_waiting
    b_waiting := F_waiting.binds fun _ _ _ _ _ _ us hl => match us, hl with | [_, _, _, _, _, _], _ => rfl
    g_is_waiting := PySem.W.mg_of X G ga_is_waiting
    F_is_waiting := F_is_waiting
    b_is_waiting := F_is_waiting.binds fun _ _ _ _ _ _ us hl => match us, hl with | [_, _, _, _, _, _, _], _ => rfl
    g__law_dice := PySem.W.mg_of X G ga__law_dice
    F__law_dice := F__law_dice
    b__law_dice := F__law_dice.binds fun _ _ _ _ _ _ us hl => match us, hl with | [_, _], _ => rfl
    g__law_roll := PySem.W.mg_of X G ga__law_roll
    F__law_roll := F__law_roll
    b__law_roll := F__law_roll.binds fun _ _ _ _ _ _ us hl => match us, hl with | [_, _], _ => rfl
    g__law_pick := PySem.W.mg_of X G ga__law_pick
    F__law_pick := F__law_pick
    b__law_pick := F__law_pick.binds fun _ _ _ _ _ _ us hl => match us, hl with | [_, _], _ => rfl
    g__law_refused := PySem.W.mg_of X G ga__law_refused
    F__law_refused := F__law_refused
    b__law_refused := F__law_refused.binds fun _ _ _ _ _ _ us hl => match us, hl with | [_], _ => rfl
    g__law_l_choices := PySem.W.mg_of X G ga__law_l_choices
    F__law_l_choices := F__law_l_choices
    b__law_l_choices := F__law_l_choices.binds fun _ _ _ _ _ _ us hl => match us, hl with | [_], _ => rfl
    g__law_l_wide := PySem.W.mg_of X G ga__law_l_wide
    F__law_l_wide := F__law_l_wide
    b__law_l_wide := F__law_l_wide.binds fun _ _ _ _ _ _ us hl => match us, hl with | [_], _ => rfl
    g__law_l_ends := PySem.W.mg_of X G ga__law_l_ends
    F__law_l_ends := F__law_l_ends
    b__law_l_ends := F__law_l_ends.binds fun _ _ _ _ _ _ us hl => match us, hl with | [_, _, _], _ => rfl
    g__law_l_told := PySem.W.mg_of X G ga__law_l_told
    F__law_l_told := F__law_l_told
    b__law_l_told := F__law_l_told.binds fun _ _ _ _ _ _ us hl => match us, hl with | [_, _], _ => rfl
    g__law_l_delay := PySem.W.mg_of X G ga__law_l_delay
    F__law_l_delay := F__law_l_delay
    b__law_l_delay := F__law_l_delay.binds fun _ _ _ _ _ _ us hl => match us, hl with | [_, _], _ => rfl
    g__law_is_due := PySem.W.mg_of X G ga__law_is_due
    F__law_is_due := F__law_is_due
    b__law_is_due := F__law_is_due.binds fun _ _ _ _ _ _ us hl => match us, hl with | [_, _, _], _ => rfl
    g__law_near := PySem.W.mg_of X G ga__law_near
    F__law_near := F__law_near
    b__law_near := F__law_near.binds fun _ _ _ _ _ _ us hl => match us, hl with | [_, _], _ => rfl
    g__law_refuses := PySem.W.mg_of X G ga__law_refuses
    F__law_refuses := F__law_refuses
    b__law_refuses := F__law_refuses.binds fun _ _ _ _ _ _ us hl => match us, hl with | [_, _], _ => rfl
    g__law_right := PySem.W.mg_of X G ga__law_right
    F__law_right := F__law_right
    b__law_right := F__law_right.binds fun _ _ _ _ _ _ us hl => match us, hl with | [_], _ => rfl
    g_law := PySem.W.mg_of X G ga_law
    F_law := F_law
    b_law := F_law.binds fun _ _ _ _ _ _ us hl => match us, hl with | [_], _ => rfl
    kw_waiting_0_ticks_gap_burst_every_work_crews := DL.Fun.kwb F_waiting (fun _ _ _ _ _ _ us ws h1 h2 => match us, ws, h1, h2 with | [], [_, _, _, _, _, _], _, _ => rfl) (by decide) (by decide)
    kw_is_waiting_6_value := DL.Fun.kwb F_is_waiting (fun _ _ _ _ _ _ us ws h1 h2 => match us, ws, h1, h2 with | [_, _, _, _, _, _], [_], _, _ => rfl) (by decide) (by decide)
    c_MOST_BURST := PySem.W.mg_of X G cc_MOST_BURST
    r_MOST_BURST := cr_MOST_BURST
    c_MOST_GAP := PySem.W.mg_of X G cc_MOST_GAP
    r_MOST_GAP := cr_MOST_GAP
    c_MOST_TICK := PySem.W.mg_of X G cc_MOST_TICK
    r_MOST_TICK := cr_MOST_TICK
    c_MOST_WORK := PySem.W.mg_of X G cc_MOST_WORK
    r_MOST_WORK := cr_MOST_WORK
    c_MOST_EVERY := PySem.W.mg_of X G cc_MOST_EVERY
    r_MOST_EVERY := cr_MOST_EVERY
    c_MOST_ASKED := PySem.W.mg_of X G cc_MOST_ASKED
    r_MOST_ASKED := cr_MOST_ASKED
    c_MOST_TIMES := PySem.W.mg_of X G cc_MOST_TIMES
    r_MOST_TIMES := cr_MOST_TIMES
    c_MOST_WAITING := PySem.W.mg_of X G cc_MOST_WAITING
    r_MOST_WAITING := cr_MOST_WAITING
    c_MOST_CREWS := PySem.W.mg_of X G cc_MOST_CREWS
    r_MOST_CREWS := cr_MOST_CREWS
  }
  refine law_at (K := K) (R := R_law K _ _) (ta := _) (cs := [(c__law_refuses, p__law_refuses)]) ?hT ?nT ?hC ?hb ?hcs (fun ns hn => .mk hn) fun base hb hg TB => ok_law (w := w) (base := base) T ?hTB
  case hb => exact fun _ _ => .of_eq rfl
  case hT => simp only [List.forall_mem_cons]; exact ⟨hp__law_refuses, fun _ z => nomatch z⟩
  case nT => simp only [List.forall_mem_cons]; exact ⟨np__law_refuses, fun _ z => nomatch z⟩
  case hC => simp only [List.forall_mem_cons]; exact ⟨PySem.W.codeHd_of_K X hd__law_refuses, fun _ z => nomatch z⟩
  case hcs => simp only [Ad.T, List.forall_mem_cons]; exact ⟨⟨c__law_refuses, by simp⟩, fun _ z => nomatch z⟩
  case hTB =>
    simp only [List.forall_mem_cons] at TB
    obtain ⟨t__law_refuses, _⟩ := TB
    exact ⟨⟨t__law_refuses⟩, ⟨by simpa [Ad.T] using dif⟩⟩
end K07

open PySem PySem.W PyProof.Rows
set_option maxRecDepth 100000 in
set_option maxHeartbeats 0 in
theorem PySem.Challenge.cw_streetslit_k07_whole_faults_that_wait_holds : PySem.Challenge.rw_streetslit_k07_whole_faults_that_wait.Holds := by
  w_on; o_law; k_head; (case hw => w_witness2)
  k_fill
  refine LamX.walk_ofTs (l := PySem.Challenge.rw_streetslit_k07_whole_faults_that_wait) (n := 63) (k := 13) (x := "script") (CX := fun w => L2.CX (PySem.Challenge.rw_streetslit_k07_whole_faults_that_wait).prog w) rfl (by decide) rfl ⟨rfl, by decide, by decide⟩ (fun w h Y => PySem.W.km_in_of Y) ?F (fun w H s e s' z => DL.cx_no z)
  case F =>
    intro w mg fa h Y KX G hmg
    have hTs := PySem.W.km_tabs_of Y
    refine' K07.all_mk KX G hmg rfl ?gC_BadArgument ?cl_BadArgument ?rf_BadArgument ?sa_BadArgument ?ga_BadArgument ?gg_BadArgument ?ex_BadArgument ?hd_BadArgument ?no_BadArgument ?iC_BadArgument ?tC_BadArgument ?kC_BadArgument ?ty_BadArgument ?isC_BadArgument ?su_BadArgument ?sV_BadArgument ?sC_BadArgument ?mC_BadArgument ?l_BadArgument ?c_BadArgument ?d_BadArgument ?e_BadArgument ?ff_BadArgument ?cc__BadArgument ?ln_BadArgument ?sup ?any ?tsup ?n_abs ?n_all ?n_bool ?n_int ?n_isinstance ?n_len ?n_list ?n_max ?n_min ?n_range ?n_sorted ?n_tuple ?n_zip ?ga_is_integer ?l_is_integer ?ci_is_integer ?k_is_integer ?ga_is_in ?l_is_in ?ci_is_in ?k_is_in ?ga_is_tick ?l_is_tick ?ci_is_tick ?k_is_tick ?ga_are_at_most ?l_are_at_most ?ci_are_at_most ?k_are_at_most ?ga_demand ?l_demand ?ci_demand ?k_demand ?ga_are_times ?l_are_times ?ci_are_times ?k_are_times ?ga_serve ?l_serve ?ci_serve ?k_serve ?ga_finish_all ?l_finish_all ?ci_finish_all ?k_finish_all ?ga_read_at ?l_read_at ?ci_read_at ?k_read_at ?ga_are_kept ?l_are_kept ?ci_are_kept ?k_are_kept ?ga_wait_all ?l_wait_all ?ci_wait_all ?k_wait_all ?ga_period_of ?l_period_of ?ci_period_of ?k_period_of ?ga_lead_period ?l_lead_period ?ci_lead_period ?k_lead_period ?ga_busy_at ?l_busy_at ?ci_busy_at ?k_busy_at ?ga_burst_wait ?l_burst_wait ?ci_burst_wait ?k_burst_wait ?ga_delay_of ?l_delay_of ?ci_delay_of ?k_delay_of ?ga_demand_all ?l_demand_all ?ci_demand_all ?k_demand_all ?ga_dark_of ?l_dark_of ?ci_dark_of ?k_dark_of ?ga_times_ahead ?l_times_ahead ?ci_times_ahead ?k_times_ahead ?ga_faults_for ?l_faults_for ?ci_faults_for ?k_faults_for ?ga_waiting ?l_waiting ?ci_waiting ?k_waiting ?ga_is_waiting ?l_is_waiting ?ci_is_waiting ?k_is_waiting ?ga__law_dice ?l__law_dice ?ci__law_dice ?k__law_dice ?ga__law_roll ?l__law_roll ?ci__law_roll ?k__law_roll ?ga__law_pick ?l__law_pick ?ci__law_pick ?k__law_pick ?ga__law_refused ?l__law_refused ?ci__law_refused ?k__law_refused ?ga__law_l_choices ?l__law_l_choices ?ci__law_l_choices ?k__law_l_choices ?ga__law_l_wide ?l__law_l_wide ?ci__law_l_wide ?k__law_l_wide ?ga__law_l_ends ?l__law_l_ends ?ci__law_l_ends ?k__law_l_ends ?ga__law_l_told ?l__law_l_told ?ci__law_l_told ?k__law_l_told ?ga__law_l_delay ?l__law_l_delay ?ci__law_l_delay ?k__law_l_delay ?ga__law_is_due ?l__law_is_due ?ci__law_is_due ?k__law_is_due ?ga__law_near ?l__law_near ?ci__law_near ?k__law_near ?ga__law_refuses ?l__law_refuses ?ci__law_refuses ?k__law_refuses ?lc__law_refuses ?pc__law_refuses ?hd__law_refuses ?np__law_refuses ?hp__law_refuses ?ga__law_right ?l__law_right ?ci__law_right ?k__law_right ?ga_law ?l_law ?ci_law ?k_law ?cc_MOST_BURST ?cr_MOST_BURST ?cc_MOST_GAP ?cr_MOST_GAP ?cc_MOST_TICK ?cr_MOST_TICK ?cc_MOST_WORK ?cr_MOST_WORK ?cc_MOST_EVERY ?cr_MOST_EVERY ?cc_MOST_ASKED ?cr_MOST_ASKED ?cc_MOST_TIMES ?cr_MOST_TIMES ?cc_MOST_WAITING ?cr_MOST_WAITING ?cc_MOST_CREWS ?cr_MOST_CREWS ?dif
    (case gC_BadArgument => first | k_is | rfl)
    (case cl_BadArgument => first | k_is | rfl)
    (case rf_BadArgument => rfl)
    (case sa_BadArgument => first | k_is | rfl)
    (case ga_BadArgument => first | k_is | rfl)
    (case gg_BadArgument => first | k_is | rfl)
    (case ex_BadArgument => first | k_is | rfl)
    (case hd_BadArgument => first | k_is | rfl)
    (case no_BadArgument => first | k_is | rfl)
    (case iC_BadArgument => first | k_is | rfl)
    (case tC_BadArgument => first | k_is | rfl)
    (case kC_BadArgument => first | k_is | rfl)
    (case ty_BadArgument => first | k_is | rfl)
    (case isC_BadArgument => first | k_is | rfl)
    (case su_BadArgument => kernel_rfl)
    (case sV_BadArgument => first | k_is | rfl)
    (case sC_BadArgument => first | k_is | rfl)
    (case mC_BadArgument => first | k_is | rfl)
    (case l_BadArgument => first | k_is | rfl)
    (case c_BadArgument => first | k_is | rfl)
    (case d_BadArgument => first | k_is | rfl)
    (case e_BadArgument => rfl)
    (case ff_BadArgument => first | rfl | decide +kernel)
    (case cc__BadArgument => first | k_is | rfl)
    (case ln_BadArgument => first | rfl | decide +kernel)
    (case sup => first | k_is | rfl)
    (case any => first | k_is | rfl)
    (case tsup => first | rfl | decide +kernel | kernel_rfl)
    (case n_abs => first | k_is | rfl)
    (case n_all => first | k_is | rfl)
    (case n_bool => first | k_is | rfl)
    (case n_int => first | k_is | rfl)
    (case n_isinstance => first | k_is | rfl)
    (case n_len => first | k_is | rfl)
    (case n_list => first | k_is | rfl)
    (case n_max => first | k_is | rfl)
    (case n_min => first | k_is | rfl)
    (case n_range => first | k_is | rfl)
    (case n_sorted => first | k_is | rfl)
    (case n_tuple => first | k_is | rfl)
    (case n_zip => first | k_is | rfl)
    (case ga_is_integer => first | k_is | rfl)
    (case l_is_integer => first | k_is | rfl)
    (case ci_is_integer => first | k_is | rfl)
    (case k_is_integer => first | k_is | rfl)
    (case ga_is_in => first | k_is | rfl)
    (case l_is_in => first | k_is | rfl)
    (case ci_is_in => first | k_is | rfl)
    (case k_is_in => first | k_is | rfl)
    (case ga_is_tick => first | k_is | rfl)
    (case l_is_tick => first | k_is | rfl)
    (case ci_is_tick => first | k_is | rfl)
    (case k_is_tick => first | k_is | rfl)
    (case ga_are_at_most => first | k_is | rfl)
    (case l_are_at_most => first | k_is | rfl)
    (case ci_are_at_most => first | k_is | rfl)
    (case k_are_at_most => first | k_is | rfl)
    (case ga_demand => first | k_is | rfl)
    (case l_demand => first | k_is | rfl)
    (case ci_demand => first | k_is | rfl)
    (case k_demand => first | k_is | rfl)
    (case ga_are_times => first | k_is | rfl)
    (case l_are_times => first | k_is | rfl)
    (case ci_are_times => first | k_is | rfl)
    (case k_are_times => first | k_is | rfl)
    (case ga_serve => first | k_is | rfl)
    (case l_serve => first | k_is | rfl)
    (case ci_serve => first | k_is | rfl)
    (case k_serve => first | k_is | rfl)
    (case ga_finish_all => first | k_is | rfl)
    (case l_finish_all => first | k_is | rfl)
    (case ci_finish_all => first | k_is | rfl)
    (case k_finish_all => first | k_is | rfl)
    (case ga_read_at => first | k_is | rfl)
    (case l_read_at => first | k_is | rfl)
    (case ci_read_at => first | k_is | rfl)
    (case k_read_at => first | k_is | rfl)
    (case ga_are_kept => first | k_is | rfl)
    (case l_are_kept => first | k_is | rfl)
    (case ci_are_kept => first | k_is | rfl)
    (case k_are_kept => first | k_is | rfl)
    (case ga_wait_all => first | k_is | rfl)
    (case l_wait_all => first | k_is | rfl)
    (case ci_wait_all => first | k_is | rfl)
    (case k_wait_all => first | k_is | rfl)
    (case ga_period_of => first | k_is | rfl)
    (case l_period_of => first | k_is | rfl)
    (case ci_period_of => first | k_is | rfl)
    (case k_period_of => first | k_is | rfl)
    (case ga_lead_period => first | k_is | rfl)
    (case l_lead_period => first | k_is | rfl)
    (case ci_lead_period => first | k_is | rfl)
    (case k_lead_period => first | k_is | rfl)
    (case ga_busy_at => first | k_is | rfl)
    (case l_busy_at => first | k_is | rfl)
    (case ci_busy_at => first | k_is | rfl)
    (case k_busy_at => first | k_is | rfl)
    (case ga_burst_wait => first | k_is | rfl)
    (case l_burst_wait => first | k_is | rfl)
    (case ci_burst_wait => first | k_is | rfl)
    (case k_burst_wait => first | k_is | rfl)
    (case ga_delay_of => first | k_is | rfl)
    (case l_delay_of => first | k_is | rfl)
    (case ci_delay_of => first | k_is | rfl)
    (case k_delay_of => first | k_is | rfl)
    (case ga_demand_all => first | k_is | rfl)
    (case l_demand_all => first | k_is | rfl)
    (case ci_demand_all => first | k_is | rfl)
    (case k_demand_all => first | k_is | rfl)
    (case ga_dark_of => first | k_is | rfl)
    (case l_dark_of => first | k_is | rfl)
    (case ci_dark_of => first | k_is | rfl)
    (case k_dark_of => first | k_is | rfl)
    (case ga_times_ahead => first | k_is | rfl)
    (case l_times_ahead => first | k_is | rfl)
    (case ci_times_ahead => first | k_is | rfl)
    (case k_times_ahead => first | k_is | rfl)
    (case ga_faults_for => first | k_is | rfl)
    (case l_faults_for => first | k_is | rfl)
    (case ci_faults_for => first | k_is | rfl)
    (case k_faults_for => first | k_is | rfl)
    (case ga_waiting => first | k_is | rfl)
    (case l_waiting => first | k_is | rfl)
    (case ci_waiting => first | k_is | rfl)
    (case k_waiting => first | k_is | rfl)
    (case ga_is_waiting => first | k_is | rfl)
    (case l_is_waiting => first | k_is | rfl)
    (case ci_is_waiting => first | k_is | rfl)
    (case k_is_waiting => first | k_is | rfl)
    (case ga__law_dice => first | k_is | rfl)
    (case l__law_dice => first | k_is | rfl)
    (case ci__law_dice => first | k_is | rfl)
    (case k__law_dice => first | k_is | rfl)
    (case ga__law_roll => first | k_is | rfl)
    (case l__law_roll => first | k_is | rfl)
    (case ci__law_roll => first | k_is | rfl)
    (case k__law_roll => first | k_is | rfl)
    (case ga__law_pick => first | k_is | rfl)
    (case l__law_pick => first | k_is | rfl)
    (case ci__law_pick => first | k_is | rfl)
    (case k__law_pick => first | k_is | rfl)
    (case ga__law_refused => first | k_is | rfl)
    (case l__law_refused => first | k_is | rfl)
    (case ci__law_refused => first | k_is | rfl)
    (case k__law_refused => first | k_is | rfl)
    (case ga__law_l_choices => first | k_is | rfl)
    (case l__law_l_choices => first | k_is | rfl)
    (case ci__law_l_choices => first | k_is | rfl)
    (case k__law_l_choices => first | k_is | rfl)
    (case ga__law_l_wide => first | k_is | rfl)
    (case l__law_l_wide => first | k_is | rfl)
    (case ci__law_l_wide => first | k_is | rfl)
    (case k__law_l_wide => first | k_is | rfl)
    (case ga__law_l_ends => first | k_is | rfl)
    (case l__law_l_ends => first | k_is | rfl)
    (case ci__law_l_ends => first | k_is | rfl)
    (case k__law_l_ends => first | k_is | rfl)
    (case ga__law_l_told => first | k_is | rfl)
    (case l__law_l_told => first | k_is | rfl)
    (case ci__law_l_told => first | k_is | rfl)
    (case k__law_l_told => first | k_is | rfl)
    (case ga__law_l_delay => first | k_is | rfl)
    (case l__law_l_delay => first | k_is | rfl)
    (case ci__law_l_delay => first | k_is | rfl)
    (case k__law_l_delay => first | k_is | rfl)
    (case ga__law_is_due => first | k_is | rfl)
    (case l__law_is_due => first | k_is | rfl)
    (case ci__law_is_due => first | k_is | rfl)
    (case k__law_is_due => first | k_is | rfl)
    (case ga__law_near => first | k_is | rfl)
    (case l__law_near => first | k_is | rfl)
    (case ci__law_near => first | k_is | rfl)
    (case k__law_near => first | k_is | rfl)
    (case ga__law_refuses => first | k_is | rfl)
    (case l__law_refuses => first | k_is | rfl)
    (case ci__law_refuses => first | k_is | rfl)
    (case k__law_refuses => first | k_is | rfl)
    (case lc__law_refuses => first | k_is | rfl)
    (case pc__law_refuses => rfl)
    (case hd__law_refuses => kernel_rfl)
    (case np__law_refuses => kernel_rfl)
    (case hp__law_refuses => exact hTs _ (by decide))
    (case ga__law_right => first | k_is | rfl)
    (case l__law_right => first | k_is | rfl)
    (case ci__law_right => first | k_is | rfl)
    (case k__law_right => first | k_is | rfl)
    (case ga_law => first | k_is | rfl)
    (case l_law => first | k_is | rfl)
    (case ci_law => first | k_is | rfl)
    (case k_law => first | k_is | rfl)
    (case cc_MOST_BURST => first | k_is | rfl)
    (case cr_MOST_BURST => exact ⟨_, rfl⟩)
    (case cc_MOST_GAP => first | k_is | rfl)
    (case cr_MOST_GAP => exact ⟨_, rfl⟩)
    (case cc_MOST_TICK => first | k_is | rfl)
    (case cr_MOST_TICK => exact ⟨_, rfl⟩)
    (case cc_MOST_WORK => first | k_is | rfl)
    (case cr_MOST_WORK => exact ⟨_, rfl⟩)
    (case cc_MOST_EVERY => first | k_is | rfl)
    (case cr_MOST_EVERY => exact ⟨_, rfl⟩)
    (case cc_MOST_ASKED => first | k_is | rfl)
    (case cr_MOST_ASKED => exact ⟨_, rfl⟩)
    (case cc_MOST_TIMES => first | k_is | rfl)
    (case cr_MOST_TIMES => exact ⟨_, rfl⟩)
    (case cc_MOST_WAITING => first | k_is | rfl)
    (case cr_MOST_WAITING => exact ⟨_, rfl⟩)
    (case cc_MOST_CREWS => first | k_is | rfl)
    (case cr_MOST_CREWS => exact ⟨_, rfl⟩)
    (case dif => first | rfl | decide +kernel | kernel_rfl)
