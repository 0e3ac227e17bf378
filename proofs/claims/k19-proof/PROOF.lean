import PyProof.Rows.All
import Wide.All
import OpenK.AllK
import Wide.FinOn
import PyProof.EqAt
import PyProof.EqKinds
import PyProof.TupleCall
import HandS.ForExc
import HandS.ExcField
import HandS.Lambda
import HandS.EndTab
import KE.KExcSuper
import HandS.Deep
import HandS.TupAny
import HandS.IsInst
import HandS.Style
import HandS.Flow
import HandS.WordsExc
import HandS.TupMul
import HandS.Wide
import HandS.Conv
import HandS.SortInts
import HandS.Text
import PyProof.P3In
import HandS.Star
import KE.GoesMore
import HandS.Zip
import HandS.ExcValue
import HandS.ExcOwn
import HandS.Dict
import HandS.Small
import HandS.Iter
import KE.DatumOrd
import KE.KSortTupAny
import HandS.NamedTupSort
import HandS.Keys
import HandS.Comp
import HandS.SetFor
import HandS.Strs
import HandS.SortKw
import HandS.Rev
import PySem.Challenge.RW_streetslit_k19_whole_callers
set_option Elab.async false
set_option linter.all false
set_option maxRecDepth 100000
set_option maxHeartbeats 2000000
/-! own exceptions: class X(L): def __init__(self, f): super().__init__(f); self.f = f -/
namespace BX
open PySem PySem.W PySem.Calls PyProof.Rows PySem.HandSPX
/-- the body of such an __init__ -/
def iB (fl : Str) (a b c d e f g h i j : Pos) : List Stmt :=
  [.Expr (.Call (.Attribute (.Call (.Name "super" a) [] [] b) "__init__" c) [.Name fl d] [] e) f,
   .Assign [.Attribute (.Name "self" g) fl h] (.Name fl i) j]
def iA (fl : Str) (p1 p2 : Pos) : Arguments := { posonlyargs := [], args := [{ arg := "self", annotation := none, pos := p1 }, { arg := fl, annotation := none, pos := p2 }], vararg := none, kwonlyargs := [], kw_defaults := [], kwarg := none, defaults := [] }
def iS (fl : Str) : Scope := { kind := .function, names := [(PySem.Str.ofString "self", .local), (fl, .local), (PySem.Str.ofString "__class__", .free), (PySem.Str.ofString "super", .globalImplicit)], isGenerator := false, isCoroutine := false, more := [] }
/-- a field's name that is no other name of the scope -/
structure FlOk (fl : Str) : Prop where
  n1 : ¬ fl = ("self" : Str)
  n2 : ¬ fl = ("__class__" : Str)
  n3 : ¬ fl = ("super" : Str)
  n4 : (fl == ("__debug__" : Str)) = false
  bd : ∀ (qual : Str) (p1 p2 : Pos) (body : List Stmt) (doc pm cdv ct u v : Value) (an : Option Addr) (cc : Addr), bindArgs (ksFn "__init__" qual (iA fl p1 p2) body (iS fl) .none .none doc pm an cdv ct cc) ⟨[u, v], []⟩ = pure [(("self" : Str), u), (fl, v)]
theorem flName : FlOk "name" := ⟨by decide +kernel, by decide +kernel, by decide +kernel, by decide +kernel, fun _ _ _ _ _ _ _ _ _ _ _ _ => rfl⟩
theorem flWord : FlOk "word" := ⟨by decide +kernel, by decide +kernel, by decide +kernel, by decide +kernel, fun _ _ _ _ _ _ _ _ _ _ _ _ => rfl⟩
theorem flPlace : FlOk "place" := ⟨by decide +kernel, by decide +kernel, by decide +kernel, by decide +kernel, fun _ _ _ _ _ _ _ _ _ _ _ _ => rfl⟩
/-- what the written part says of the class nm at C, its __init__ at fI, the cell cc of its __class__ -/
structure ExTxt (prog : Program) (K : Frag) (mg : Str → Option Value) (nm fl : Str) (C fI : Addr) : Prop where
  fo : FlOk fl
  gC : mg nm = some (.ref C)
  sup : nsIn K mainGlobals "super" = some none
  any : nsIn K cStatics "thirdparty.any" = some none
  top : (prog.main.scope.names.lookup ("super" : Str)).isSome = false
  cls : ∃ nm q N bs bm sn sub ab col dd k0 k1 k2 k3 k5, K.lookup C = some (excClassObj nm q C N bs bm true sn sub ab col dd k0 k1 k2 k3 k5 "ValueError.__new__") ∧ refsVE bm = true
  sa : findIn K (.ref C) "__setattr__" = some (some (.builtin "object.__setattr__"))
  xf : L2.XfC K C
  noN : findIn K (.ref C) fl = some none
  iC : findIn K (.ref C) "__init__" = some (some (.ref fI))
  tC : typeIn K (.ref fI) = some (.type "function")
  kC : keepIn K (.ref C) = true
  tyC : typeIn K (.ref C) = some (.type "type")
  sup2 : ks_superIn K C C "__init__" = some (some (.builtin "ValueError.__init__"))
  sVE : subIn K (.ref C) (.type "ValueError") = some true
  sCC : mroIn K C (.ref C) = some true
  fn : ∃ (oc ccl ccc ct doc pm : Value) (od cdd ccd an : Option Addr) (osl ccs ccv : Array (Option Value)) (vs : Array Value) (file : Str) (tf : Tok) (qual : Str) (p1 p2 a b c d e f g h i j : Pos) (cda cc : Addr),
    K.lookup fI = some ⟨oc, od, .func (ksFn "__init__" qual (iA fl p1 p2) (iB fl a b c d e f g h i j) (iS fl) .none .none doc pm an (.ref cda) ct cc), osl⟩ ∧ codeIn K (.ref cda) qual = true ∧
    K.lookup cda = some ⟨ccl, cdd, .fields vs, ccs⟩ ∧ vs[2]? = some (.str file tf) ∧ ((prog.main.file : Str) == file) = true ∧
    K.lookup cc = some ⟨ccc, ccd, .cell (some (.ref C)), ccv⟩ ∧ (c.endLine == e.line) = true
theorem one_size (v : Value) : [v].length ≤ sizeLine := by
  rw [sizeLine_eq]
  exact (by decide : 1 ≤ 16777216)
theorem ldC {M : Model} {s : Shared} {name : Str} {scope : Scope} {L a cc : Addr} {cd : Value} {m : Str → Option Value} {x : Str} {pos : Pos} {v : Value} {Q : Value → Shared → Prop} {A : Around} {E : Value → Shared → Prop} (hn : s.heap.Ns L m) (hv : m x = some v) (h : Q v s)
    (hk : scope.kind = .function) (hl : scope.names.lookup x = some .local) (hd : (x == ("__debug__" : Str)) = false) :
    wpAny M A (eval (.Name x pos) (ksEnv name scope L a cd cc)) Q E s := wpAny_Name (wpAny_loadName_local hk hl hn hv h) hd
structure InitEnd (h h' : Heap) (x C dx t1 : Addr) (fl : Str) (v : Value) : Prop where
  keep : ∀ b o, b ≠ x → h.get? b = some o → h'.get? b = some o
  obj : h'.get? x = some { cls := .ref C, dict := some dx, data := .fields #[.ref t1, .none, .none, .none, .bool false, .none] }
  dbig : h.objs.size ≤ dx
  dne : dx ≠ x
  ns : h'.Ns1 dx (fun y => if y = fl then some v else none)
structure OwnMade (h h' : Heap) (e C d : Addr) (fl : Str) (v : Value) : Prop where
  keep : ∀ b o, h.get? b = some o → h'.get? b = some o
  new : h.objs.size ≤ e
  obj : ∃ oe vs, h'.get? e = some oe ∧ oe.cls = .ref C ∧ oe.dict = some d ∧ oe.data = .fields vs ∧ vs[1]? = some .none
  dbig : h.objs.size ≤ d
  dne : d ≠ e
  ns : h'.Ns1 d (fun y => if y = fl then some v else none)
section
variable {prog : Program} {w : World} {A : Around} {E : Value → Shared → Prop} {R : Result → Shared → Prop} {s : Shared} {K : Frag} {mg mgG mb : Str → Option Value} {C fI : Addr} {nm fl : Str}
/-- what a state must bring: the module's names, the built-in ones -/
structure Gnd (K : Frag) (h : Heap) (mg : Str → Option Value) : Prop where
  g : h.Ns mainGlobals mg
  b : ∃ mb, h.Ns builtinsNs mb ∧ mb "super" = some (.type "super")
theorem Gnd.keeps {h h' : Heap} (G : Gnd K h mg) (k : ∀ b o, h.get? b = some o → h'.get? b = some o) : Gnd K h' mg := by
  obtain ⟨g, mb, h1, h2⟩ := G
  exact ⟨g.keeps k, mb, h1.keeps k, h2⟩
theorem call_mw {u e t0 : Addr} {h : Heap} {g : Array GenState} {d : Drawn} {t : Nat} {os : OsState} {rest : List Value} {Q : Value → Shared → Prop} {nm q : Str} {N : Addr} {bs bm : List Value} {hdct : Bool} {sn : List Str} {sub : List Value} {ab : Bool} {col : Option Bool} {dd : Option Addr} {k0 k1 k2 k3 k5 : Option Value}
    (hC : h.get? C = some (excClassObj nm q C N bs bm hdct sn sub ab col dd k0 k1 k2 k3 k5 "ValueError.__new__")) (he : h.get? e = some (excO C t0)) (hu : h.get? u = some (kxs_mw "ValueError.__init__" e)) (hrest : rest.length ≤ sizeLine)
    (hq : ∀ h' t1, (∀ b o, b ≠ e → h.get? b = some o → h'.get? b = some o) → h'.get? e = some (excO C t1) → Q .none ⟨h', g, d, t, os⟩) :
    wpAny (model prog w) A (call (.ref u) rest) Q E ⟨h, g, d, t, os⟩ := by
  refine wpAny_call (codeAny_of_tree ?_)
  show wpAny _ A.in1 (callAny (.ref u) ⟨rest, []⟩) _ _ _
  simp only [callAny]
  refine wpAny_bind (wpAny_load hu ?_)
  simp only [kxs_mw, show (Value.type "method-wrapper" == Value.type "method" || Value.type "method-wrapper" == Value.type "builtin_function_or_method" || Value.type "method-wrapper" == Value.type "method-wrapper") = true by decide, if_true]
  refine KFB.if_so (by decide) ?_
  refine wpAny_bind (check_bound_init F.excBase_ValueError.toExcCallFacts hC he rfl ?_)
  refine wpAny_bind (wpAny_pure (wpAny_pure ?_))
  refine ⟨plainId_quiet F.excBase_ValueError.init.plain _, codeAny_builtin F.excBase_ValueError.initEntry ?_⟩
  exact exc_init_tree (cls := .ref C) (t0 := t0) (dv := none) (c2 := .none) (c3 := .none) (b4 := .bool false) he hrest fun h' k e' _ => hq h' _ k e'
theorem he_of {env : Env} {o : Expr} {nm : Str} {c e d : Pos} {fl : Str} (hl : (c.endLine == e.line) = true) : eval (.Call (.Attribute o nm c) [.Name fl d] [] e) env = (do
      let ov ← attributeBase o nm env (eval o env)
      standAt c.atName
      let (f, first) ← holding [ov] (getMethod ov nm (do return (← importBound o env).getD true))
      callWith e f first (backTo e (starEach [.Name fl d] env)) []) := by
  rw [arm_eval_Call]
  have hf : methodCallForm ([Expr.Name fl d].length + ([] : List Keyword).length) (backTo e (starEach [.Name fl d] env)) (backToKw e (keywordEach [] env)) = true := by rfl
  have hm : methodCallPos true o env c e = pure e := by
    unfold methodCallPos
    rw [hl]
    rfl
  congr 1
  funext ov
  congr 1
  funext _
  unfold methodCall
  rw [hf, hm]
  rfl
theorem bx_init (T : ExTxt prog K mg nm fl C fI) {x t0 : Addr} {v : Value} (X : K.In s.heap) (G : Gnd K s.heap mg) (hlim : s.heap.NoLimit) (hx : s.heap.get? x = some (excO C t0)) (hnx : K.lookup x = none) (hroom : A.depth < recursionLimit)
    (hq : ∀ h' tk dx t1, InitEnd s.heap h' x C dx t1 fl v → R (.ok (.ret .none)) { s with heap := h', toks := tk }) :
    codeAny (model prog w) A (.call (.ref fI) ⟨[.ref x, v], []⟩) R s := by
  obtain ⟨oc, ccl, ccc, ct, doc, pm, od, cdd, ccd, an, osl, ccs, ccv, vs, file, tf, qual, p1, p2, a, b, c, d, e, f, g, h, i, j, cda, cc, ho, hcd, hcode, hvs, hfile, hcell, hl⟩ := T.fn
  obtain ⟨nm', q, N, bs, bm, sn, sub, ab, col, dd, k0, k1, k2, k3, k5, hC, hbm⟩ := T.cls
  have hcl : clsIn K C = some { name := nm', bases := bs, mro := .ref C :: bm, ns := N, qualname := q, hasDict := true, slotNames := sn, subclasses := sub, abstract := ab, collection := col, hasDel := false } := by unfold clsIn; rw [hC] <;> rfl
  have fo := T.fo
  have lself : (iS fl).names.lookup ("self" : Str) = some .local := by rfl
  have lfl : (iS fl).names.lookup fl = some .local := by
    have q1 : (fl == ("self" : Str)) = false := by simpa using fo.n1
    simp [iS, List.lookup, q1]
  have lcl : (iS fl).names.lookup ("__class__" : Str) = some .free := by
    have q1 : (("__class__" : Str) == fl) = false := by simpa using Ne.symm fo.n2
    have q2 : (("__class__" : Str) == PySem.Str.ofString "self") = false := by decide +kernel
    simp [iS, List.lookup, q1, q2]
  have lsu : (iS fl).names.lookup ("super" : Str) = some .globalImplicit := by
    have q1 : (("super" : Str) == fl) = false := by simpa using Ne.symm fo.n3
    have q2 : (("super" : Str) == PySem.Str.ofString "self") = false := by decide +kernel
    have q3 : (("super" : Str) == PySem.Str.ofString "__class__") = false := by decide +kernel
    simp [iS, List.lookup, q1, q2, q3]
  refine ks_codeAny_call_defAt (binds := [("self", .ref x), (fl, v)]) hroom (X _ _ ho) rfl hlim (codeRec_of X hcd) rfl (BindsTo.of_eq ?_) ?_ ?_ (fun h₁ hns k => ?_) rfl rfl rfl
  · exact fo.bd _ _ _ _ _ _ _ _ _ _ _ _
  · intro y hy
    simp only [iS, List.mem_cons, List.not_mem_nil, or_false] at hy
    rcases hy with h | h | h | h <;> subst h <;> exact fun q => nomatch q
  · intro y hy
    simp only [List.mem_cons, List.not_mem_nil, or_false] at hy
    rcases hy with h | h <;> subst h
    · exact lself
    · exact lfl
  · have X₁ : K.In h₁ := X.keeps k
    have G₁ := G.keeps k
    have hx₁ := k _ _ hx
    have xC : x ≠ C := fun z => by rw [z, hC] at hnx; cases hnx
    refine ks_wpAt_execs_cons (ks_wpAt_Expr_any (ks_wpAt_MethodCall ?_ (he_of hl)) rfl rfl)
    refine ks_wpAt_super_base lsu lcl (by decide) rfl (X₁ _ _ ho) rfl rfl rfl (X₁ _ _ hcode) rfl hvs hfile T.top ?_
    obtain ⟨mb, hb1, hb2⟩ := G₁.b
    refine ks_loadName_global rfl lsu (loadGlobal_builtin G₁.g (mg_none_of X₁ G₁.g T.sup) hb1 hb2 ⟨rfl, ?_⟩)
    refine wpAny_loadName_free rfl lcl rfl ⟨_, X₁ _ _ hcell, rfl⟩ ?_
    have hself : (fun y => [(("self" : Str), Value.ref x), (fl, v)].reverse.lookup y) ("self" : Str) = some (.ref x) := by
      have q1 : (("self" : Str) == fl) = false := by simpa using Ne.symm fo.n1
      simp [List.lookup, q1]
    have hfl : (fun y => [(("self" : Str), Value.ref x), (fl, v)].reverse.lookup y) fl = some v := by
      simp [List.lookup]
    refine wpAny_loadName_local rfl lself hns hself ?_
    refine ks_wpAny_isType_cls (X₁ _ _ hC) rfl ⟨rfl, ?_⟩
    refine ks_wpAny_call_super (X₁ _ _ hC) rfl hx₁ rfl (fun c e => nomatch e) (looks_mroIn X₁ T.sCC) (fun h₂ so k₂ => ?_)
    have X₂ : K.In h₂ := X₁.keeps k₂
    have hx₂ := k₂ _ _ hx₁
    have hns₂ := hns.keeps k₂
    have I₂ : InstAt h₂ x (excO C t0) C none := ⟨hx₂, rfl, rfl, trivial⟩
    have hI : ∀ M : Model, Looks (model prog w) h₂ (isInstance (.ref x) (.type "ValueError")) true := fun _ => I₂.type.andThen (looks_subIn X₂ T.sVE)
    have hal : alongIn K "__init__" (((.ref C :: bm).dropWhile (· != .ref C)).drop 1) = some (some (.builtin "ValueError.__init__")) := by
      have e := T.sup2
      unfold ks_superIn at e
      rw [hcl] at e
      exact e
    refine kxs_getMethod kxs_ValueError so (looks_opaque X₂ T.any) (l₀ := .ref C :: bm) (fun A Q E s k q => wpAny_bind ((looks_clsIn X₂ hcl) A _ E s k (wpAny_pure q))) rfl X₂ hal (hI (model prog w)) xC (by decide) ?_
    -- the wrapper is called with the value
    have kp : ∀ b o, h₂.get? b = some o → (h₂.push (kxs_mw "ValueError.__init__" x)).get? b = some o := fun b o e => Heap.get?_push_of_some _ e
    have hu : (h₂.push (kxs_mw "ValueError.__init__" x)).get? h₂.objs.size = some (kxs_mw "ValueError.__init__" x) := Heap.get?_push_size _ rfl
    refine kxs_callWith (i := "ValueError.__init__") (x := x) rfl (evalArgs_plain ?_)
    show wpAny _ _ (spliced ((false, eval (.Name fl d) _) :: backTo e (starEach [] _))) _ _ _
    refine Calls.spliced_cons (ldC (hns₂.keeps kp) hfl ?_ rfl lfl fo.n4)
    refine Calls.spliced_nil ⟨hu, ?_⟩
    refine call_mw (kp _ _ (X₂ _ _ hC)) (kp _ _ hx₂) hu (one_size v) (fun h₃ t1 k₃ hx₃ => ?_)
    -- self.f = f
    have xL : x ≠ s.heap.objs.size := Nat.ne_of_lt (Heap.lt_size hx)
    have X₃ : K.In h₃ := fun a o ea => k₃ a o (fun z => by rw [z, hnx] at ea; cases ea) (kp _ _ (X₂ _ _ ea))
    have hns₃ : h₃.Ns s.heap.objs.size (fun y => [(("self" : Str), Value.ref x), (fl, v)].reverse.lookup y) := by
      obtain ⟨oL, es, ep, hL, r⟩ := hns₂
      exact ⟨oL, es, ep, k₃ _ _ (Ne.symm xL) (kp _ _ hL), r⟩
    refine wpAt_of_wpAny ?_
    show wpAny _ _ (execs _ _) _ _ _
    refine wpAny_execs_cons (plainObj_wpAny_Assign_Attribute ?_)
    refine ldC hns₃ hfl (ldC hns₃ hself ?_ rfl lself (by decide)) rfl lfl fo.n4
    refine set_plain X₃ (ox := excO C t1) (od := none) ⟨hx₃, rfl, rfl, trivial⟩ T.sa ?_
    refine exc_osa X₃ hx₃ hcl (show refsVE (.ref C :: bm) = true from hbm) rfl T.noN (fun h₄ tk₄ dx k₄ dn dne hx₄ hn₄ => ?_)
    show wpAny _ _ (execs _ _) _ _ _
    have z : ∀ b o, b ≠ x → s.heap.get? b = some o → h₃.get? b = some o := fun b o hb e => k₃ b o hb (kp _ _ (k₂ _ _ (k b o e)))
    have dbig : s.heap.objs.size ≤ dx := by
      have y := hns₃.lt
      exact Nat.le_of_lt (Nat.lt_of_lt_of_le y dn)
    exact wpAny_execs_nil (hq h₄ tk₄ dx t1 ⟨fun b o hb e => k₄ b o hb (z b o hb e), hx₄, dbig, dne, hn₄⟩)
theorem bx_made (T : ExTxt prog K mg nm fl C fI) {v : Value} (X : K.In s.heap) (G : Gnd K s.heap mg) (hlim : s.heap.NoLimit) (hroom : A.depth + 1 < recursionLimit)
    (hq : ∀ h' tk e d, OwnMade s.heap h' e C d fl v → R (.ok (.ret (.ref e))) { s with heap := h', toks := tk }) :
    codeAny (model prog w) A (.call (.ref C) ⟨[v], []⟩) R s := by
  obtain ⟨nm', q, N, bs, bm, sn, sub, ab, col, dd, k0, k1, k2, k3, k5, hC, hbm⟩ := T.cls
  obtain ⟨hp, g, dr, tk, os⟩ := s
  have k : ∀ b o, hp.get? b = some o → ((hp.push (kdv_tup [v])).push (excO C hp.objs.size)).get? b = some o := fun b o e => Heap.get?_push_of_some _ (Heap.get?_push_of_some _ e)
  have hget : ((hp.push (kdv_tup [v])).push (excO C hp.objs.size)).get? (hp.objs.size + 1) = some (excO C hp.objs.size) := by heap_get
  have hnx : K.lookup (hp.objs.size + 1) = none := by
    cases e : K.lookup (hp.objs.size + 1) with
    | none => rfl
    | some o =>
      have z : hp.get? (hp.objs.size + 1) = some o := X _ _ e
      exact absurd (Nat.lt_of_succ_lt (Heap.lt_size z)) (Nat.lt_irrefl _)
  refine call_own F.excBase_ValueError (fun X => refsVE_contains X bm hbm) (X _ _ hC) (looks_findIn X T.iC) (fun self => bind_fn X self T.tC) (one_size v) ?_
  refine bx_init (s := ⟨(hp.push (kdv_tup [v])).push (excO C hp.objs.size), g, dr, tk, os⟩) T (X.keeps k) (G.keeps k) (hlim.keeps k) hget hnx ?_ fun h' tk' dx t1 ⟨k', hx, dn, dne, hns⟩ => ?_
  · show A.depth + 1 < recursionLimit
    exact hroom
  · have old : ∀ b o, hp.get? b = some o → h'.get? b = some o := fun b o e => k' b o (Nat.ne_of_lt (Nat.lt_succ_of_lt (Heap.lt_size e))) (k b o e)
    have z : hp.objs.size + 1 + 1 ≤ dx := by
      first
        | (simpa only [Heap.size_push] using dn)
        | exact dn
        | (have q := dn; rw [Heap.size_push, Heap.size_push] at q; exact q)
    exact ⟨rfl, hq h' tk' (hp.objs.size + 1) dx ⟨old, Nat.le_succ _, ⟨_, _, hx, rfl, rfl, rfl, rfl⟩, Nat.le_trans (Nat.le_trans (Nat.le_succ _) (Nat.le_succ _)) z, dne, hns⟩⟩
end
end BX
namespace BX
open PySem PySem.Spec PyProof.Rows L2
theorem relO_one {fl : Str} {v : V} {v' : Value} (r : RelV v v') (f : Str) : RelO (List.lookup f [(fl, v)]) (if f = fl then some v' else none) := by
  by_cases hw : f = fl
  · subst hw
    rw [if_pos rfl]
    have q : List.lookup f [(f, v)] = some v := by simp [List.lookup]
    rw [q]
    exact r
  · rw [if_neg hw]
    have qw : (f == fl) = false := by simpa using hw
    have q2 : List.lookup f [(fl, v)] = none := by simp [List.lookup, qw]
    rw [q2]
    trivial
section
variable {X : Cx} {C fI : Addr} {nm fl : Str}
def tMkX (C : Addr) (fl : Str) (ta : TA) : L2.St → Hp → XK → Prop := fun σ H Q => ta σ H fun vs H1 => ∃ v, vs = [v] ∧ ∀ d, H1 d = none → Q (.ref C) (some d) (upd H1 d (.xd [(fl, v)]))
theorem pmk_bx {a : Expr} {ta : TA} {p pos : Pos} {k : Nat} (T : ExTxt X.prog X.K X.mg nm fl C fI) (hr : Room k X.A) (ha : PA X [a] ta) (hg : Gl X nm) (hd : (nm == ("__debug__" : Str)) = false)
    (he : starEach (a :: []) X.env = (false, eval a X.env) :: starEach [] X.env := by rfl) (hpl : (backTo pos (starEach [] X.env)).any (·.1) = false := by rfl) :
    PMk X (.Call (.Name nm p) [a] [] pos) (tMkX C fl ta) := by
  intro pins s σ H Q I h
  refine wpAny_Call_Name_kw (ld_glob I hg T.gC ?_ hd)
  refine PySem.W.callWith_K (h₀ := X.base) I.ok.mod.kin T.kC (thn (ha.run pos pins s σ H _ I h) fun us s1 hh => ?_) he hpl
  obtain ⟨vs, H1, I1, r1, v, ev, q1⟩ := hh
  subst ev
  refine ⟨I1.kIn, ?_⟩
  cases r1 with
  | cons rv rn =>
    rename_i v' us'
    cases rn
    show wpAny _ _ (call (.ref C) [v']) _ _ _
    have hlim := I1.nolimit
    have G : Gnd X.K s1.heap X.mg := by
      obtain ⟨mb, h1, h2⟩ := I1.mod.blt
      exact ⟨I1.mod.glob.keeps I1.bk, mb, h1.keeps I1.bk, (h2 _ (by decide +kernel)).trans (by decide +kernel)⟩
    obtain ⟨hp, g, dr, tk, os⟩ := s1
    refine wpAny_call (bx_made T I1.kIn G hlim (by have := hr.dp; omega) fun h' tk' e d M => ?_)
    show MkP X pins σ Q (.ref e) ⟨h', g, dr, tk', os⟩
    obtain ⟨oe, fv, hoe, hc, hd, hdat, h1⟩ := M.obj
    have hns := M.ns
    obtain ⟨G', g1, g2⟩ := restrict h' fun b => decide (b ≠ e)
    have gk : ∀ b, b ≠ e → G'.get? b = h'.get? b := fun b hb => g1 b (decide_eq_true hb)
    have ge : G'.get? e = none := g2 e (by simp)
    have old : ∀ b o, hp.get? b = some o → G'.get? b = some o := fun b o q => (gk b (Nat.ne_of_lt (Nat.lt_of_lt_of_le (Heap.lt_size q) M.new))).trans (M.keep b o q)
    have ob : ObjOk X.prog X.w (upd H1 d (.xd [(fl, v)])) G' d (.xd [(fl, v)]) :=
      ⟨_, hns.at (fun o q => (gk d M.dne).trans q), fun f => relO_one rv f⟩
    have J : Inv X pins σ (upd H1 d (.xd [(fl, v)])) ⟨G', g, dr, tk', os⟩ := I1.laid (t' := tk') old M.dbig ob
    refine ⟨e, oe, fv, ⟨G', g, dr, tk', os⟩, _, .ref C, some d, rfl, J, fun b o q => ?_, ge, hoe, ⟨hc, hd⟩, hdat, h1, ?_, rfl, I1.bare, raises_own T.xf.exC T.tyC, q1 d (I1.hok.fresh M.dbig)⟩
    · by_cases hb : b = e
      · have q' : G'.get? b = some o := q
        rw [hb, ge] at q'
        cases q'
      · exact (gk b hb).symm.trans q
    · rw [upd_ne (Ne.symm M.dne)]
      exact I1.hok.fresh M.new
def tRaiseX (C : Addr) (fl : Str) (W : WX) (ta : TA) : TS := fun _ σ H => tMkX C fl ta σ H fun cls d H' => W cls d σ H'
theorem ps_raiseX {a : Expr} {ta : TA} {W : WX} {p pos pos2 : Pos} {k : Nat} (hc : X.calm = true) (T : ExTxt X.prog X.K X.mg nm fl C fI) (hr : Room k X.A) (tk : Takes X W) (ha : PA X [a] ta) (hg : Gl X nm := by rfl) (hd : (nm == ("__debug__" : Str)) = false := by decide)
    (he : starEach (a :: []) X.env = (false, eval a X.env) :: starEach [] X.env := by rfl) (hpl : (backTo pos (starEach [] X.env)).any (·.1) = false := by rfl) :
    PS X (.Raise (some (.Call (.Name nm p) [a] [] pos)) none pos2) (tRaiseX C fl W ta) := ps_raise hc tk (pmk_bx T hr ha hg hd he hpl)
end
end BX
namespace BX
open PySem PySem.Spec PyProof.Rows L2 LamX
theorem takes_len {X : Cx} {W : WX} (t : Takes X W) : Takes X (fun c d σ H => σ.length = X.N.length → W c d σ H) := fun u s' ⟨a, B, sI, pins, σ, H, cls, d, e, I, nb, up, sky, na, os, ag, w⟩ =>
  t u s' ⟨a, B, sI, pins, σ, H, cls, d, e, I, nb, up, sky, na, os, ag, w I.len⟩
/-- what «try: a() / except C as e: return e.fl / return ret» makes of a's reading -/
def TRef (K : PySem.W.Frag) (C : Addr) (fl ret : Str) : (XK → Hp → VK → Prop) → Hp → VK → Prop := fun tl H Q =>
  tl (fun cls d H' => cls = .ref C ∧ ∃ (dd : Addr) (fs : List (Str × V)) (v : V), d = some dd ∧ H' dd = some (.xd fs) ∧ fs.lookup fl = some v ∧ Q v H') H (fun _ H' => Q (.str ret) H')
theorem ref_gives {X : Cx} {x q ret : Str} {nm fl : Str} {C fI g : Addr} {sg : Scope} {cdg : Value} {j : Nat} {p1 p2 p3 p4 p5 p6 p7 p8 p9 p10 p11 : Pos} (T : ExTxt X.prog X.K X.mg nm fl C fI) (te : PySem.W.exmOne X.K (.ref C) (.ref C) = some true)
    (hge : sg.names.lookup nm = some .globalImplicit) (hde : (nm == ("__debug__" : Str)) = false) (hle : sg.names.lookup ("e" : Str) = some .local) :
    GivesTo X ["call", "e"] x sg g cdg [.Try [.Expr (.Call (.Name "call" p1) [] [] p2) p3] [.ExceptHandler (some (.Name nm p4)) (some "e") [.Return (some (.Attribute (.Name "e" p5) fl p6)) p7] p8] [] [] p9, .Return (some (.Constant (.str ret) j p10)) p11] "call" q (TRef X.K C fl ret) := by
  intro f c' s H Q tl act hc h
  have hgl : Gl (cxOf C8.CX0 X.prog X.w X.K X.mg X.base ["call", "e"] x sg g cdg X.A X.stack s H C8.E0).nox nm := hge
  refine ⟨_, pss_cons (ps_try_as (X := (cxOf C8.CX0 X.prog X.w X.K X.mg X.base ["call", "e"] x sg g cdg X.A X.stack s H C8.E0).nox) (i := 1) (c := .ref C)
      (tb := fun W D σ H => ∃ Ech : XK, (∀ cls d σ' H', Ech cls d H' → σ'.length = 2 → W cls d σ' H') ∧ σ[0]? = some (some (.ref f)) ∧ H c' = some (CodeO c' q) ∧ tl Ech H (fun _ H' => D.nx σ H'))
      (ts := fun a cls d => tRet (tXf a cls d C fl (tVar 1)))
      rfl rfl (show (["call", "e"] : List Str).Nodup by decide +kernel) rfl hle ⟨hgl, hde, .inl T.gC⟩ L2.takes0 (fun W pn xe tk _ => ?_) (fun a oe cls d pn hz hf => pss_one (ps_ret (pe_xf T.xf T.noN hz hf (pv 1 rfl (.inl hle)))))) (pss_one (ps_ret pe_str)), ?_⟩
  · refine ⟨fun pins s' σ H' D I h' => ?_⟩
    obtain ⟨Ech, hW, h1, h2, h3⟩ := h'
    have hp := act _ pn xe Ech p1 p2 (takes_len tk) hW
    exact (pss_one (ps_expr (pos := p3) hp)).run pins s' σ H' D I ⟨h1, h2, h3⟩
  · refine ⟨fun cls d H' => cls = .ref C ∧ ∃ (dd : Addr) (fs : List (Str × V)) (v : V), d = some dd ∧ H' dd = some (.xd fs) ∧ fs.lookup fl = some v ∧ Q v H', ?_, rfl, hc, h⟩
    rintro cls d σ' H' ⟨rfl, dd, fs, v, rfl, h1, h2, h3⟩ hlen
    refine ⟨true, te, fun _ a ha => ?_, fun z => Bool.noConfusion z⟩
    obtain ⟨x0, x1, rfl⟩ : ∃ x0 x1, σ' = [x0, x1] := by
      match σ', hlen with
      | [a, b], _ => exact ⟨a, b, rfl⟩
    exact ⟨.ref a, rfl, rfl, rfl, dd, fs, v, rfl, h1, h2, h3⟩
end BX

/-! the data layer: what expressions and statements do, told over plain data -/
namespace DL
open PySem PySem.Spec PyProof.Rows L2
abbrev D := PyData
def Ex (H H' : Hp) : Prop := ∀ a o, H a = some o → H' a = some o
theorem Ex.refl (H : Hp) : Ex H H := fun _ _ h => h
theorem Ex.trans {H H1 H2 : Hp} (a : Ex H H1) (b : Ex H1 H2) : Ex H H2 := fun x o h => b x o (a x o h)
theorem Ex.un {H H' : Hp} (e : Ex H H') {p : Addr} (h : H' p = none) : H p = none := by
  cases q : H p with
  | none => rfl
  | some o => rw [e p o q] at h; cases h
theorem Ex.new {H : Hp} {p : Addr} {o : HO} (h : H p = none) : Ex H (upd H p o) := fun a u e => by
  rw [upd_ne (ne_of_none e h)]; exact e
theorem Ex.rd {H H' : Hp} (e : Ex H H') {a : Addr} {u : HO} (h : Rd H a u) : Rd H' a u := by
  rcases h with h | ⟨o, h⟩
  · exact .inl (e a _ h)
  · exact .inr ⟨o, e a _ h⟩
theorem Ex.sqT {K : PySem.W.Frag} {H H' : Hp} {a : Addr} {xs : List V} (e : Ex H H') (h : SqT K H a xs) : SqT K H' a xs := by
  rcases h with h | h
  · exact .inl (e.rd h)
  · exact .inr h
theorem Ex.sqL {K : PySem.W.Frag} {H H' : Hp} {a : Addr} {xs : List V} (e : Ex H H') (h : SqL K H a xs) : SqL K H' a xs := by
  rcases h with h | h
  · exact .inl (e.rd h)
  · exact .inr h
def keyD : Key → D
  | .inl i => .int i
  | .inr x => .str x
/-- the script: a list that may only be read, told by a datum that nothing else bears -/
def scrD (ns : List Int) : D := .dict [(.none, .list (ns.map PyData.int))]
/-! ### what a value is, in the frozen part F -/
mutual
inductive At (K : PySem.W.Frag) (F : Hp) : V → D → Prop
  | non : At K F .non .none
  | bl (b : Bool) : At K F (.bl b) (.bool b)
  | int (i : Int) : At K F (.int i) (.int i)
  | str (x : Str) : At K F (.str x) (.str x)
  | lst {a : Addr} {vs : List V} {ds : List D} : F a = some (.lst vs) → AtAll K F vs ds → At K F (.ref a) (.list ds)
  | tup {a : Addr} {vs : List V} {ds : List D} : SqT K F a vs → AtAll K F vs ds → At K F (.ref a) (.tuple ds)
  | dic {a : Addr} {kvs : List (Key × V)} {ds : List (D × D)} : F a = some (.dK kvs) → AtKV K F kvs ds → At K F (.ref a) (.dict ds)
  | scr {a : Addr} {ns : List Int} : SqL K F a (ns.map V.int) → At K F (.ref a) (scrD ns)
inductive AtAll (K : PySem.W.Frag) (F : Hp) : List V → List D → Prop
  | nil : AtAll K F [] []
  | cons {v : V} {vs : List V} {d : D} {ds : List D} : At K F v d → AtAll K F vs ds → AtAll K F (v :: vs) (d :: ds)
inductive AtKV (K : PySem.W.Frag) (F : Hp) : List (Key × V) → List (D × D) → Prop
  | nil : AtKV K F [] []
  | cons {k : Key} {v : V} {kvs : List (Key × V)} {d : D} {ds : List (D × D)} : At K F v d → AtKV K F kvs ds → AtKV K F ((k, v) :: kvs) ((keyD k, d) :: ds)
end
section
variable {K : PySem.W.Frag} {F F' : Hp}
mutual
theorem At.ex (e : Ex F F') : ∀ {v : V} {d : D}, At K F v d → At K F' v d
  | _, _, .non => .non
  | _, _, .bl b => .bl b
  | _, _, .int i => .int i
  | _, _, .str x => .str x
  | _, _, .lst h t => .lst (e _ _ h) (AtAll.ex e t)
  | _, _, .tup h t => .tup (e.sqT h) (AtAll.ex e t)
  | _, _, .dic h t => .dic (e _ _ h) (AtKV.ex e t)
  | _, _, .scr h => .scr (e.sqL h)
theorem AtAll.ex (e : Ex F F') : ∀ {vs : List V} {ds : List D}, AtAll K F vs ds → AtAll K F' vs ds
  | _, _, .nil => .nil
  | _, _, .cons h t => .cons (At.ex e h) (AtAll.ex e t)
theorem AtKV.ex (e : Ex F F') : ∀ {vs : List (Key × V)} {ds : List (D × D)}, AtKV K F vs ds → AtKV K F' vs ds
  | _, _, .nil => .nil
  | _, _, .cons h t => .cons (At.ex e h) (AtKV.ex e t)
end
theorem AtAll.length : ∀ {vs : List V} {ds : List D}, AtAll K F vs ds → vs.length = ds.length
  | _, _, .nil => rfl
  | _, _, .cons _ t => by simp [AtAll.length t]
theorem AtAll.get : ∀ {vs : List V} {ds : List D} {i : Nat} {d : D}, AtAll K F vs ds → ds[i]? = some d → ∃ v, vs[i]? = some v ∧ At K F v d
  | _, _, _, _, .nil, e => by simp at e
  | _, _, 0, _, .cons h _, e => by simp at e; subst e; exact ⟨_, by simp, h⟩
  | _, _, i + 1, d, .cons _ t, e => by
    obtain ⟨v, h1, h2⟩ := AtAll.get (i := i) (d := d) t (by simpa using e)
    exact ⟨v, by simpa using h1, h2⟩
theorem AtAll.getV : ∀ {vs : List V} {ds : List D} {i : Nat} {v : V}, AtAll K F vs ds → vs[i]? = some v → ∃ d, ds[i]? = some d ∧ At K F v d
  | _, _, _, _, .nil, e => by simp at e
  | _, _, 0, _, .cons h _, e => by simp at e; subst e; exact ⟨_, by simp, h⟩
  | _, _, i + 1, d, .cons _ t, e => by
    obtain ⟨v, h1, h2⟩ := AtAll.getV (i := i) (v := d) t (by simpa using e)
    exact ⟨v, by simpa using h1, h2⟩
theorem AtAll.append : ∀ {vs ws : List V} {ds es : List D}, AtAll K F vs ds → AtAll K F ws es → AtAll K F (vs ++ ws) (ds ++ es)
  | _, _, _, _, .nil, s => s
  | _, _, _, _, .cons h t, s => .cons h (AtAll.append t s)
theorem AtAll.take : ∀ {vs : List V} {ds : List D} (n : Nat), AtAll K F vs ds → AtAll K F (vs.take n) (ds.take n)
  | _, _, 0, _ => .nil
  | _, _, _ + 1, .nil => .nil
  | _, _, n + 1, .cons h t => .cons h (AtAll.take n t)
theorem AtAll.drop : ∀ {vs : List V} {ds : List D} (n : Nat), AtAll K F vs ds → AtAll K F (vs.drop n) (ds.drop n)
  | _, _, 0, r => r
  | _, _, _ + 1, .nil => .nil
  | _, _, n + 1, .cons _ t => AtAll.drop n t
theorem AtAll.set {v : V} {d : D} (h : At K F v d) : ∀ {vs : List V} {ds : List D} (i : Nat), AtAll K F vs ds → AtAll K F (vs.set i v) (ds.set i d)
  | _, _, _, .nil => .nil
  | _, _, 0, .cons _ t => .cons h t
  | _, _, i + 1, .cons q t => .cons q (AtAll.set h i t)
theorem AtAll.snoc {vs : List V} {ds : List D} {v : V} {d : D} (t : AtAll K F vs ds) (h : At K F v d) : AtAll K F (vs ++ [v]) (ds ++ [d]) := t.append (.cons h .nil)
/-- a list of ints -/
theorem AtAll.ints : ∀ {vs : List V} {ns : List Int}, AtAll K F vs (ns.map PyData.int) → vs = ns.map V.int
  | [], [], .nil => rfl
  | _, n :: ns, .cons h t => by cases h; rw [AtAll.ints t]; rfl
theorem AtAll.of_ints : ∀ {ns : List Int}, AtAll K F (ns.map V.int) (ns.map PyData.int)
  | [] => .nil
  | n :: ns => .cons (.int n) AtAll.of_ints
end
/-! ### data without dicts, for == -/
mutual
def flat0 : D → Bool
  | .dict _ => false
  | .list xs => flats0 xs
  | .tuple xs => flats0 xs
  | _ => true
def flats0 : List D → Bool
  | [] => true
  | x :: xs => flat0 x && flats0 xs
end
section
variable {K : PySem.W.Frag} {F H : Hp}
mutual
theorem At.dp (e : Ex F H) : ∀ {v : V} {d : D}, At K F v d → flat0 d = true → Dp K H v d
  | _, _, .non, _ => .non
  | _, _, .bl b, _ => .bl b
  | _, _, .int i, _ => .int i
  | _, _, .str x, _ => .str x
  | _, _, .lst h t, q => .lst (.inl (.inl (e _ _ h))) (AtAll.dp e t (by unfold flat0 at q; exact q))
  | _, _, .tup h t, q => .tup (e.sqT h) (AtAll.dp e t (by unfold flat0 at q; exact q))
  | _, _, .dic h t, q => by unfold flat0 at q; cases q
  | _, _, .scr h, q => by unfold scrD flat0 at q; cases q
theorem AtAll.dp (e : Ex F H) : ∀ {vs : List V} {ds : List D}, AtAll K F vs ds → flats0 ds = true → DpAll K H vs ds
  | _, _, .nil, _ => .nil
  | _, _, .cons h t, q => by
    unfold flats0 at q
    rw [Bool.and_eq_true] at q
    exact .cons (At.dp e h q.1) (AtAll.dp e t q.2)
end
end
/-! ### states -/
/-- code objects and the like stay for ever -/
def ExtKeep (H H' : Hp) : Prop := ∀ b φ, H b = some (.ext φ) → H' b = some (.ext φ)
theorem ExtKeep.of {H H' : Hp} (e : Ex H H') : ExtKeep H H' := fun b φ h => e b _ h
/-- a thing that is owned: it stands at P in H, and leans on the frozen part -/
structure Rs where
  ok : Hp → Hp → (Addr → Prop) → Option (Option V) → Prop
  mono : ∀ {F F' H H' : Hp} {P : Addr → Prop} {sv : Option (Option V)}, ok F H P sv → Ex F F' → (∀ b, P b → H' b = H b) → ExtKeep H H' → ok F' H' P sv
inductive Sl where
  | unk
  | dat (d : D)
  | vv (v : V)
  | res (r : Rs)
structure S where
  s : List Sl
  g : List (Addr × Str) := []
def SlOk (K : PySem.W.Frag) (F H : Hp) (P : Addr → Prop) (sv : Option (Option V)) : Sl → Prop
  | .unk => True
  | .dat d => ∃ v, sv = some (some v) ∧ At K F v d
  | .vv v => sv = some (some v)
  | .res r => r.ok F H P sv
theorem SlOk.mono {K : PySem.W.Frag} {F F' H H' : Hp} {P : Addr → Prop} {sv : Option (Option V)} {s : Sl} (h : SlOk K F H P sv s) (e : Ex F F') (k : ∀ b, P b → H' b = H b) (x : ExtKeep H H') : SlOk K F' H' P sv s := by
  cases s with
  | unk => trivial
  | dat d => obtain ⟨v, h1, h2⟩ := h; exact ⟨v, h1, h2.ex e⟩
  | vv v => exact h
  | res r => exact r.mono h e k x
abbrev Ix := Nat ⊕ Nat
abbrev Fp := Ix → Addr → Prop
/-- no table of code objects -/
def NoTbl (o : HO) : Prop := ∀ ps, o ≠ .tbl ps
/-- something stands there, no table -/
def Live (H : Hp) (b : Addr) : Prop := ∃ o, H b = some o ∧ NoTbl o
theorem Live.ne {H : Hp} {b p : Addr} (h : Live H b) (hp : H p = none) : b ≠ p := fun z => by
  obtain ⟨o, q, _⟩ := h; rw [z, hp] at q; cases q
theorem Live.ex {H H' : Hp} {b : Addr} (h : Live H b) (e : Ex H H') : Live H' b := by
  obtain ⟨o, q, n⟩ := h; exact ⟨o, e b o q, n⟩
structure EnvW (K : PySem.W.Frag) (σ : L2.St) (s : S) (H F : Hp) (fp : Fp) : Prop where
  ex : Ex F H
  len : σ.length = s.s.length
  sl : ∀ (i : Nat) (x : Sl), s.s[i]? = some x → SlOk K F H (fp (.inl i)) σ[i]? x
  tb : LamX.Tabs s.g H
  dj : ∀ (i j : Ix) (b : Addr), i ≠ j → fp i b → ¬ fp j b
  nf : ∀ i b, fp i b → F b = none
  th : ∀ i b, fp i b → Live H b
  nt : ∀ b o, F b = some o → NoTbl o
structure Step (H F : Hp) (fp : Fp) (H' F' : Hp) (fp' : Fp) : Prop where
  ex : Ex F F'
  new : ∀ b, F b = none → Live H b → (∀ i, ¬ fp i b) → F' b = none
  keep : ∀ b o, H b = some o → NoTbl o → (∀ i, ¬ fp i b) → H' b = some o
  fpn : ∀ i b, fp' i b → (∃ j, fp j b) ∨ ¬ Live H b
  ext : ExtKeep H H'
theorem Step.live {H F H' F' : Hp} {fp fp' : Fp} (st : Step H F fp H' F' fp') {b : Addr} (h : Live H b) (n : ∀ i, ¬ fp i b) : Live H' b := by
  obtain ⟨o, q, x⟩ := h; exact ⟨o, st.keep b o q x n, x⟩
theorem Step.refl (H F : Hp) (fp : Fp) : Step H F fp H F fp := ⟨Ex.refl F, fun _ h _ _ => h, fun _ _ h _ _ => h, fun i b h => .inl ⟨i, h⟩, fun _ _ h => h⟩
theorem Step.trans {H F H1 F1 H2 F2 : Hp} {fp fp1 fp2 : Fp} (a : Step H F fp H1 F1 fp1) (b' : Step H1 F1 fp1 H2 F2 fp2) : Step H F fp H2 F2 fp2 where
  ex := a.ex.trans b'.ex
  new := fun c h1 h2 h3 => b'.new c (a.new c h1 h2 h3) (a.live h2 h3) fun i hi => by
    rcases a.fpn i c hi with ⟨j, hj⟩ | h
    · exact h3 j hj
    · exact h h2
  keep := fun c o h1 n h2 => b'.keep c o (a.keep c o h1 n h2) n fun i hi => by
    rcases a.fpn i c hi with ⟨j, hj⟩ | h
    · exact h2 j hj
    · exact h ⟨o, h1, n⟩
  fpn := fun i c h => by
    rcases b'.fpn i c h with ⟨j, hj⟩ | h
    · exact a.fpn j c hj
    · by_cases z : ∃ j, fp j c
      · exact .inl z
      · exact .inr fun l => h (a.live l fun i hi => z ⟨i, hi⟩)
  ext := fun b φ h => b'.ext b φ (a.ext b φ h)
/-- only new things have come -/
structure Grow (F H F' H' : Hp) : Prop where
  f : Ex F F'
  h : Ex H H'
  fh : Ex F' H'
  new : ∀ b, F b = none → (∃ o, H b = some o) → F' b = none
  nt : (∀ b o, F b = some o → NoTbl o) → ∀ b o, F' b = some o → NoTbl o
theorem Grow.refl {F H : Hp} (e : Ex F H) : Grow F H F H := ⟨Ex.refl F, Ex.refl H, e, fun _ h _ => h, fun h => h⟩
theorem Grow.trans {F H F1 H1 F2 H2 : Hp} (a : Grow F H F1 H1) (b : Grow F1 H1 F2 H2) : Grow F H F2 H2 :=
  ⟨a.f.trans b.f, a.h.trans b.h, b.fh, fun c h ⟨o, q⟩ => b.new c (a.new c h ⟨o, q⟩) ⟨o, a.h c o q⟩, fun h => b.nt (a.nt h)⟩
/-- a new frozen object -/
theorem Grow.laid {F H : Hp} {p : Addr} {o : HO} (e : Ex F H) (h : H p = none) (hn : NoTbl o := by intro ps z; cases z) : Grow F H (upd F p o) (upd H p o) where
  f := Ex.new (e.un h)
  h := Ex.new h
  fh := fun a u q => by
    by_cases z : a = p
    · subst z; rw [upd_same] at q ⊢; exact q
    · rw [upd_ne z] at q ⊢; exact e a u q
  new := fun b h1 ⟨u, h2⟩ => by rw [upd_ne (ne_of_none h2 h)]; exact h1
  nt := fun n b u q => by
    by_cases z : b = p
    · subst z; rw [upd_same] at q; cases q; exact hn
    · rw [upd_ne z] at q; exact n b u q
section
variable {K : PySem.W.Frag} {σ : L2.St} {s : S} {H F H' F' : Hp} {fp : Fp}
theorem Live.get {H H' : Hp} {b : Addr} (h : Live H b) (e : Ex H H') : H' b = H b := by
  obtain ⟨o, q, _⟩ := h; rw [q, e b o q]
theorem EnvW.grow (E : EnvW K σ s H F fp) (g : Grow F H F' H') : EnvW K σ s H' F' fp where
  ex := g.fh
  len := E.len
  sl := fun i x h => (E.sl i x h).mono g.f (fun b hb => (E.th _ b hb).get g.h) (ExtKeep.of g.h)
  tb := E.tb.ext g.h
  dj := E.dj
  nf := fun i b h => g.new b (E.nf i b h) (by obtain ⟨o, q, _⟩ := E.th i b h; exact ⟨o, q⟩)
  th := fun i b h => (E.th i b h).ex g.h
  nt := g.nt E.nt
theorem EnvW.growS (E : EnvW K σ s H F fp) (g : Grow F H F' H') : Step H F fp H' F' fp :=
  ⟨g.f, fun b h ⟨o, q, _⟩ _ => g.new b h ⟨o, q⟩, fun b o h _ _ => g.h b o h, fun i b h => .inl ⟨i, h⟩, ExtKeep.of g.h⟩
/-- a footprint changed at one place -/
def fpSet (fp : Fp) (i : Ix) (P : Addr → Prop) : Fp := fun j => if j = i then P else fp j
theorem fpSet_same {i : Ix} {P : Addr → Prop} : fpSet fp i P i = P := if_pos rfl
theorem fpSet_ne {i j : Ix} {P : Addr → Prop} (h : j ≠ i) : fpSet fp i P j = fp j := if_neg h
def S.set (s : S) (i : Nat) (x : Sl) : S := ⟨s.s.set i x, s.g⟩
abbrev noP : Addr → Prop := fun _ => False
/-- slot i gets v -/
theorem EnvW.set (E : EnvW K σ s H F fp) {i : Nat} {v : V} {x : Sl} (h : SlOk K F H noP (some (some v)) x) : EnvW K (σ.set i (some v)) (s.set i x) H F (fpSet fp (.inl i) noP) where
  ex := E.ex
  len := by simp [S.set, E.len]
  sl := fun j y hj => by
    by_cases z : j = i
    · subst z
      have hl : j < s.s.length := by
        have := (List.getElem?_eq_some_iff.mp hj).1
        simpa [S.set] using this
      have e1 : (s.s.set j x)[j]? = some x := List.getElem?_set_self hl
      rw [show (s.set j x).s = s.s.set j x from rfl, e1] at hj
      cases hj
      rw [fpSet_same, List.getElem?_set_self (by rw [E.len]; exact hl)]
      exact h
    · have e1 : (s.s.set i x)[j]? = s.s[j]? := List.getElem?_set_ne (Ne.symm z)
      rw [show (s.set i x).s = s.s.set i x from rfl, e1] at hj
      rw [fpSet_ne (by intro q; cases q; exact z rfl), List.getElem?_set_ne (Ne.symm z)]
      exact E.sl j y hj
  tb := E.tb
  dj := fun j k b hjk h1 h2 => by
    by_cases z : j = .inl i
    · subst z; rw [fpSet_same] at h1; exact h1
    · rw [fpSet_ne z] at h1
      by_cases y : k = .inl i
      · subst y; rw [fpSet_same] at h2; exact h2
      · rw [fpSet_ne y] at h2; exact E.dj j k b hjk h1 h2
  nf := fun j b h1 => by
    by_cases z : j = .inl i
    · subst z; rw [fpSet_same] at h1; exact h1.elim
    · rw [fpSet_ne z] at h1; exact E.nf j b h1
  th := fun j b h1 => by
    by_cases z : j = .inl i
    · subst z; rw [fpSet_same] at h1; exact h1.elim
    · rw [fpSet_ne z] at h1; exact E.th j b h1
  nt := E.nt
theorem Step.drop {i : Ix} : Step H F fp H F (fpSet fp i noP) := ⟨Ex.refl F, fun _ h _ _ => h, fun _ _ h _ _ => h, fun j b h => by
  by_cases z : j = i
  · subst z; rw [fpSet_same] at h; exact h.elim
  · rw [fpSet_ne z] at h; exact .inl ⟨j, h⟩, fun _ _ h => h⟩
end
end DL

namespace DL
open PySem PySem.Spec PyProof.Rows L2
/-! ### judgements -/
section
variable (K : PySem.W.Frag)
def Ev (te : TE) (s : S) (d : D) (s' : S) : Prop := ∀ σ H F fp, EnvW K σ s H F fp → ∀ Q : VK, (∀ v H' F' fp', EnvW K σ s' H' F' fp' → Step H F fp H' F' fp' → At K F' v d → Q v H') → te σ H Q
def EvT (tt : TT) (s : S) (b : Bool) (s' : S) : Prop := ∀ σ H F fp, EnvW K σ s H F fp → ∀ Q : Bool → Hp → Prop, (∀ H' F' fp', EnvW K σ s' H' F' fp' → Step H F fp H' F' fp' → Q b H') → tt σ H Q
def EvA (ta : TA) (s : S) (ds : List D) (s' : S) : Prop := ∀ σ H F fp, EnvW K σ s H F fp → ∀ Q : List V → Hp → Prop, (∀ vs H' F' fp', EnvW K σ s' H' F' fp' → Step H F fp H' F' fp' → AtAll K F' vs ds → Q vs H') → ta σ H Q
/-- P is a new thing's place -/
structure Own (H : Hp) (fp : Fp) (H' F' : Hp) (fp' : Fp) (P : Addr → Prop) : Prop where
  nf : ∀ b, P b → F' b = none
  dj : ∀ b i, P b → ¬ fp' i b
  th : ∀ b, P b → Live H' b
  new : ∀ b, P b → (∃ j, fp j b) ∨ ¬ Live H b
def EvO (te : TE) (s : S) (r : Rs) (s' : S) : Prop := ∀ σ H F fp, EnvW K σ s H F fp → ∀ Q : VK, (∀ v H' F' fp' P, EnvW K σ s' H' F' fp' → Step H F fp H' F' fp' → r.ok F' H' P (some (some v)) → Own H fp H' F' fp' P → Q v H') → te σ H Q
end
/-- a list of one's own, at ov's address where that is told -/
def lstR (K : PySem.W.Frag) (ov : Option V) (ds : List D) : Rs where
  ok := fun F H P sv => ∃ a vs, sv = some (some (.ref a)) ∧ (∀ v, ov = some v → v = .ref a) ∧ (∀ b, P b ↔ b = a) ∧ H a = some (.lst vs) ∧ AtAll K F vs ds
  mono := fun ⟨a, vs, h1, h2, h3, h4, h5⟩ e k _ => ⟨a, vs, h1, h2, h3, by rw [k a ((h3 a).mpr rfl)]; exact h4, h5.ex e⟩
abbrev lst (K : PySem.W.Frag) (ds : List D) : Sl := .res (lstR K none ds)
section
variable {K : PySem.W.Frag} {s s1 s2 s3 s' : S} {ta tb te tc : TE} {t u : TT} {x y z d : D} {b : Bool}
/-! ### values -/
theorem ev_var {i : Nat} (h : s.s[i]? = some (.dat d)) : Ev K (tVar i) s d s := fun σ H F fp E Q q => by
  obtain ⟨v, h1, h2⟩ := E.sl i _ h
  exact ⟨v, h1, q v H F fp E (Step.refl _ _ _) h2⟩
theorem ev_int {i : Int} : Ev K (tC (.int i)) s (.int i) s := fun σ H F fp E Q q => q _ H F fp E (Step.refl _ _ _) (.int i)
theorem ev_bl {i : Bool} : Ev K (tC (.bl i)) s (.bool i) s := fun σ H F fp E Q q => q _ H F fp E (Step.refl _ _ _) (.bl i)
theorem ev_str {i : Str} : Ev K (tC (.str i)) s (.str i) s := fun σ H F fp E Q q => q _ H F fp E (Step.refl _ _ _) (.str i)
theorem ev_non : Ev K (tC .non) s .none s := fun σ H F fp E Q q => q _ H F fp E (Step.refl _ _ _) .non
theorem Ev.to (h : Ev K te s x s') (e : x = y) : Ev K te s y s' := e ▸ h
theorem EvT.to {c : Bool} (h : EvT K t s b s') (e : b = c) : EvT K t s c s' := e ▸ h
/-! ### argument lists -/
theorem ea_nil : EvA K tNil s [] s := fun σ H F fp E Q q => q _ H F fp E (Step.refl _ _ _) .nil
theorem ea_cons {tr : TA} {ds : List D} (h : Ev K te s d s1) (hr : EvA K tr s1 ds s2) : EvA K (tCons te tr) s (d :: ds) s2 := fun σ H F fp E Q q =>
  h σ H F fp E _ fun v H1 F1 fp1 E1 st1 a1 => hr σ H1 F1 fp1 E1 _ fun vs H2 F2 fp2 E2 st2 a2 => q _ H2 F2 fp2 E2 (st1.trans st2) (.cons (a1.ex st2.ex) a2)
/-! ### displays -/
theorem ev_tup {t : TA} {ds : List D} (h : EvA K t s ds s1) (hl : ds.length ≤ sizeLine) : Ev K (tTup t) s (.tuple ds) s1 := fun σ H F fp E Q q =>
  h σ H F fp E _ fun vs H1 F1 fp1 E1 st1 a1 => ⟨by rw [a1.length]; exact hl, fun p hp => by
    have g : Grow F1 H1 (upd F1 p (.tup vs)) (upd H1 p (.tup vs)) := Grow.laid E1.ex hp
    exact q _ _ _ fp1 (E1.grow g) (st1.trans (E1.growS g)) (.tup (.inl (.inl upd_same)) (a1.ex g.f))⟩
theorem ev_lst {t : TA} {ds : List D} (h : EvA K t s ds s1) (hl : ds.length ≤ sizeLine) : Ev K (tLst t) s (.list ds) s1 := fun σ H F fp E Q q =>
  h σ H F fp E _ fun vs H1 F1 fp1 E1 st1 a1 => ⟨by rw [a1.length]; exact hl, fun p hp => by
    have g : Grow F1 H1 (upd F1 p (.lst vs)) (upd H1 p (.lst vs)) := Grow.laid E1.ex hp
    exact q _ _ _ fp1 (E1.grow g) (st1.trans (E1.growS g)) (.lst upd_same (a1.ex g.f))⟩
/-- a new thing that is owned: H grows, F does not -/
theorem EnvW.growH {σ : L2.St} {H F : Hp} {fp : Fp} {p : Addr} {o : HO} (E : EnvW K σ s H F fp) (hp : H p = none) : EnvW K σ s (upd H p o) F fp where
  ex := E.ex.trans (Ex.new hp)
  len := E.len
  sl := fun i x h => (E.sl i x h).mono (Ex.refl F) (fun b hb => (E.th _ b hb).get (Ex.new hp)) (ExtKeep.of (Ex.new hp))
  tb := E.tb.ext (Ex.new hp)
  dj := E.dj
  nf := E.nf
  th := fun i b h => (E.th i b h).ex (Ex.new hp)
  nt := E.nt
theorem Step.growH {H F : Hp} {fp : Fp} {p : Addr} {o : HO} (hp : H p = none) : Step H F fp (upd H p o) F fp :=
  ⟨Ex.refl F, fun _ h _ _ => h, fun b u h _ _ => by rw [upd_ne (ne_of_none h hp)]; exact h, fun i b h => .inl ⟨i, h⟩, ExtKeep.of (Ex.new hp)⟩
theorem Own.laid {σ : L2.St} {H F : Hp} {fp : Fp} {p : Addr} {o : HO} {H0 : Hp} {fp0 : Fp} {F0 : Hp} (E : EnvW K σ s H F fp) (st : Step H0 F0 fp0 H F fp) (hp : H p = none) (hn : NoTbl o := by intro ps z; cases z) : Own H0 fp0 (upd H p o) F fp (fun b => b = p) where
  nf := fun b h => by subst h; exact E.ex.un hp
  dj := fun b i h1 h2 => by subst h1; exact (E.th i _ h2).ne hp rfl
  th := fun b h => by subst h; exact ⟨o, upd_same, hn⟩
  new := fun b h => by
    subst h
    by_cases z : ∃ j, fp0 j b
    · exact .inl z
    · exact .inr fun l => (st.live l fun i hi => z ⟨i, hi⟩).ne hp rfl
theorem eo_lst {t : TA} {ds : List D} (h : EvA K t s ds s1) (hl : ds.length ≤ sizeLine) : EvO K (tLst t) s (lstR K none ds) s1 := fun σ H F fp E Q q =>
  h σ H F fp E _ fun vs H1 F1 fp1 E1 st1 a1 => ⟨by rw [a1.length]; exact hl, fun p hp =>
    q _ _ F1 fp1 (fun b => b = p) (E1.growH hp) (st1.trans (Step.growH hp)) ⟨p, vs, rfl, (fun _ z => nomatch z), fun _ => Iff.rfl, upd_same, a1⟩ (Own.laid E1 st1 hp)⟩
/-! ### operators by data: an operand may be an owned list -/
def AtC (K : PySem.W.Frag) (F H : Hp) (v : V) (d : D) : Prop := At K F v d ∨ ∃ a vs ds, v = .ref a ∧ d = .list ds ∧ H a = some (.lst vs) ∧ AtAll K F vs ds
inductive AtCs (K : PySem.W.Frag) (F H : Hp) : List V → List D → Prop
  | nil : AtCs K F H [] []
  | cons {v : V} {vs : List V} {d : D} {ds : List D} : AtC K F H v d → AtCs K F H vs ds → AtCs K F H (v :: vs) (d :: ds)
theorem AtCs.of {F H : Hp} : ∀ {vs : List V} {ds : List D}, AtAll K F vs ds → AtCs K F H vs ds
  | _, _, .nil => .nil
  | _, _, .cons h t => .cons (.inl h) (AtCs.of t)
def rD2 (K : PySem.W.Frag) (ok : D → D → Prop) (f : D → D → D) : R2 := fun x y H Q => ∃ F dx dy, Ex F H ∧ AtC K F H x dx ∧ AtC K F H y dy ∧ ok dx dy ∧ ∀ v H' F', Grow F H F' H' → At K F' v (f dx dy) → Q v H'
theorem ev_op {ok : D → D → Prop} {f : D → D → D} (ha : Ev K ta s x s1) (hb : Ev K tb s1 y s2) (h : ok x y) : Ev K (tOp (rD2 K ok f) ta tb) s (f x y) s2 := fun σ H F fp E Q q =>
  ha σ H F fp E _ fun vx H1 F1 fp1 E1 st1 a1 => hb σ H1 F1 fp1 E1 _ fun vy H2 F2 fp2 E2 st2 a2 =>
    ⟨F2, x, y, E2.ex, .inl (a1.ex st2.ex), .inl a2, h, fun v H' F' g a => q v H' F' fp2 (E2.grow g) ((st1.trans st2).trans (E2.growS g)) a⟩
def rD1 (K : PySem.W.Frag) (ok : D → Prop) (f : D → D) : V → Hp → VK → Prop := fun x H Q => ∃ F dx, Ex F H ∧ AtC K F H x dx ∧ ok dx ∧ ∀ v H' F', Grow F H F' H' → At K F' v (f dx) → Q v H'
theorem ev_un {ok : D → Prop} {f : D → D} (ha : Ev K ta s x s1) (h : ok x) : Ev K (tUn (rD1 K ok f) ta) s (f x) s1 := fun σ H F fp E Q q =>
  ha σ H F fp E _ fun vx H1 F1 fp1 E1 st1 a1 => ⟨F1, x, E1.ex, .inl a1, h, fun v H' F' g a => q v H' F' fp1 (E1.grow g) (st1.trans (E1.growS g)) a⟩
/-- a built-in called with data -/
def rDn (K : PySem.W.Frag) (ok : List D → Prop) (f : List D → D) : List V → Hp → VK → Prop := fun xs H Q => ∃ F ds, Ex F H ∧ AtCs K F H xs ds ∧ ok ds ∧ ∀ v H' F', Grow F H F' H' → At K F' v (f ds) → Q v H'
theorem ev_cb {ok : List D → Prop} {f : List D → D} {t : TA} {ds : List D} (ha : EvA K t s ds s1) (h : ok ds) : Ev K (tCB (rDn K ok f) t) s (f ds) s1 := fun σ H F fp E Q q =>
  ha σ H F fp E _ fun vs H1 F1 fp1 E1 st1 a1 => ⟨F1, ds, E1.ex, AtCs.of a1, h, fun v H' F' g a => q v H' F' fp1 (E1.grow g) (st1.trans (E1.growS g)) a⟩
/-! ### an owned list as an operand -/
theorem EnvW.own {σ : L2.St} {H F : Hp} {fp : Fp} {i : Nat} {ov : Option V} {ds : List D} (E : EnvW K σ s H F fp) (h : s.s[i]? = some (.res (lstR K ov ds))) : ∃ a vs, σ[i]? = some (some (.ref a)) ∧ (∀ b, fp (.inl i) b ↔ b = a) ∧ H a = some (.lst vs) ∧ AtAll K F vs ds := by
  obtain ⟨a, vs, h1, _, h3, h4, h5⟩ := E.sl i _ h
  exact ⟨a, vs, h1, h3, h4, h5⟩
theorem ev_op1 {ok : D → D → Prop} {f : D → D → D} {i : Nat} {ov ov' : Option V} {ds ds' : List D} (hi : s.s[i]? = some (.res (lstR K ov ds))) (hb : Ev K tb s y s2) (hi2 : s2.s[i]? = some (.res (lstR K ov' ds'))) (h : ok (.list ds') y) : Ev K (tOp (rD2 K ok f) (tVar i) tb) s (f (.list ds') y) s2 := fun σ H F fp E Q q => by
  obtain ⟨a, vs, h1, _⟩ := E.own hi
  refine ⟨.ref a, h1, hb σ H F fp E _ fun vy H2 F2 fp2 E2 st2 a2 => ?_⟩
  obtain ⟨a', vs', h1', _, h4, h5⟩ := E2.own hi2
  rw [h1] at h1'
  cases h1'
  exact ⟨F2, .list ds', y, E2.ex, .inr ⟨_, _, _, rfl, rfl, h4, h5⟩, .inl a2, h, fun v H' F' g a => q v H' F' fp2 (E2.grow g) (st2.trans (E2.growS g)) a⟩
theorem ev_op2 {ok : D → D → Prop} {f : D → D → D} {i : Nat} {ov : Option V} {ds : List D} (ha : Ev K ta s x s1) (hi : s1.s[i]? = some (.res (lstR K ov ds))) (h : ok x (.list ds)) : Ev K (tOp (rD2 K ok f) ta (tVar i)) s (f x (.list ds)) s1 := fun σ H F fp E Q q =>
  ha σ H F fp E _ fun vx H1 F1 fp1 E1 st1 a1 => by
    obtain ⟨a, vs, h1, _, h4, h5⟩ := E1.own hi
    exact ⟨.ref a, h1, F1, x, .list ds, E1.ex, .inl a1, .inr ⟨_, _, _, rfl, rfl, h4, h5⟩, h, fun v H' F' g a => q v H' F' fp1 (E1.grow g) (st1.trans (E1.growS g)) a⟩
theorem ev_cb1 {ok : List D → Prop} {f : List D → D} {i : Nat} {ov : Option V} {ds : List D} (hi : s.s[i]? = some (.res (lstR K ov ds))) (h : ok [.list ds]) : Ev K (tCB (rDn K ok f) (tCons (tVar i) tNil)) s (f [.list ds]) s := fun σ H F fp E Q q => by
  obtain ⟨a, vs, h1, _, h4, h5⟩ := E.own hi
  exact ⟨.ref a, h1, F, [.list ds], E.ex, .cons (.inr ⟨_, _, _, rfl, rfl, h4, h5⟩) .nil, h, fun v H' F' g a => q v H' F' fp (E.grow g) (E.growS g) a⟩
/-! ### tests -/
theorem et_test (h : Ev K te s (.bool b) s1) : EvT K (tTest te) s b s1 := fun σ H F fp E Q q =>
  h σ H F fp E _ fun v H1 F1 fp1 E1 st1 a1 => by cases a1; exact ⟨b, rfl, q H1 F1 fp1 E1 st1⟩
theorem et_B (h : Ev K te s (.bool b) s1) : EvT K (tB te) s b s1 := fun σ H F fp E Q q =>
  h σ H F fp E _ fun v H1 F1 fp1 E1 st1 a1 => by cases a1; exact ⟨b, rfl, q H1 F1 fp1 E1 st1⟩
theorem et_not (h : EvT K t s b s1) : EvT K (tNot t) s (!b) s1 := fun σ H F fp E Q q => h σ H F fp E _ fun H1 F1 fp1 E1 st1 => q H1 F1 fp1 E1 st1
theorem et_and {a : Bool} (h1 : EvT K t s a s1) (h2 : a = true → EvT K u s1 b s1) : EvT K (tAnd t u) s (a && b) s1 := fun σ H F fp E Q q =>
  h1 σ H F fp E _ fun H1 F1 fp1 E1 st1 => by
    cases a with
    | true =>
      show u σ H1 Q
      exact h2 rfl σ H1 F1 fp1 E1 Q fun H2 F2 fp2 E2 st2 => q H2 F2 fp2 E2 (st1.trans st2)
    | false =>
      show Q false H1
      exact q H1 F1 fp1 E1 st1
theorem et_or {a : Bool} (h1 : EvT K t s a s1) (h2 : a = false → EvT K u s1 b s1) : EvT K (tOr t u) s (a || b) s1 := fun σ H F fp E Q q =>
  h1 σ H F fp E _ fun H1 F1 fp1 E1 st1 => by
    cases a with
    | true =>
      show Q true H1
      exact q H1 F1 fp1 E1 st1
    | false =>
      show u σ H1 Q
      exact h2 rfl σ H1 F1 fp1 E1 Q fun H2 F2 fp2 E2 st2 => q H2 F2 fp2 E2 (st1.trans st2)
theorem ev_and {a : Bool} (h1 : Ev K ta s (.bool a) s1) (h2 : a = true → Ev K tb s1 (.bool b) s1) : Ev K (tAndV ta tb) s (.bool (a && b)) s1 := fun σ H F fp E Q q =>
  h1 σ H F fp E _ fun v H1 F1 fp1 E1 st1 a1 => by
    cases a1
    refine ⟨a, rfl, ?_⟩
    cases a with
    | true =>
      show tb σ H1 Q
      exact h2 rfl σ H1 F1 fp1 E1 Q fun v H2 F2 fp2 E2 st2 a2 => q v H2 F2 fp2 E2 (st1.trans st2) a2
    | false =>
      show Q (.bl false) H1
      exact q _ H1 F1 fp1 E1 st1 (.bl false)
theorem ev_or {a : Bool} (h1 : Ev K ta s (.bool a) s1) (h2 : a = false → Ev K tb s1 (.bool b) s1) : Ev K (tOrV ta tb) s (.bool (a || b)) s1 := fun σ H F fp E Q q =>
  h1 σ H F fp E _ fun v H1 F1 fp1 E1 st1 a1 => by
    cases a1
    refine ⟨a, rfl, ?_⟩
    cases a with
    | true =>
      show Q (.bl true) H1
      exact q _ H1 F1 fp1 E1 st1 (.bl true)
    | false =>
      show tb σ H1 Q
      exact h2 rfl σ H1 F1 fp1 E1 Q fun v H2 F2 fp2 E2 st2 a2 => q v H2 F2 fp2 E2 (st1.trans st2) a2
theorem ev_not {a : Bool} (h1 : Ev K ta s (.bool a) s1) : Ev K (tNotV ta) s (.bool (!a)) s1 := fun σ H F fp E Q q =>
  h1 σ H F fp E _ fun v H1 F1 fp1 E1 st1 a1 => by cases a1; exact ⟨a, rfl, q _ H1 F1 fp1 E1 st1 (.bl _)⟩
theorem ev_if (h : EvT K t s b s1) (h1 : b = true → Ev K ta s1 x s2) (h2 : b = false → Ev K tb s1 x s2) : Ev K (tIf t ta tb) s x s2 := fun σ H F fp E Q q =>
  h σ H F fp E _ fun H1 F1 fp1 E1 st1 => by
    cases b with
    | true =>
      show ta σ H1 Q
      exact h1 rfl σ H1 F1 fp1 E1 Q fun v H2 F2 fp2 E2 st2 a2 => q v H2 F2 fp2 E2 (st1.trans st2) a2
    | false =>
      show tb σ H1 Q
      exact h2 rfl σ H1 F1 fp1 E1 Q fun v H2 F2 fp2 E2 st2 a2 => q v H2 F2 fp2 E2 (st1.trans st2) a2
theorem ev_ifD (h : EvT K t s b s1) (h1 : b = true → Ev K ta s1 x s1) (h2 : b = false → Ev K tb s1 y s1) : Ev K (tIf t ta tb) s (if b = true then x else y) s1 := by
  refine ev_if h (fun e => ?_) (fun e => ?_)
  · subst e; exact h1 rfl
  · subst e; exact h2 rfl
/-- a < b < c -/
theorem ev_chain {ok ok' : D → D → Prop} {f f' : D → D → D} {k k' : Bool} (ha : Ev K ta s x s1) (hb : Ev K tb s1 y s2) (hok : ok x y) (hf : f x y = .bool k) (hc : k = true → Ev K tc s2 z s2) (hok' : k = true → ok' y z) (hf' : k = true → f' y z = .bool k') :
    Ev K (tChain (rD2 K ok f) (rD2 K ok' f') ta tb tc) s (.bool (k && k')) s2 := fun σ H F fp E Q q =>
  ha σ H F fp E _ fun vx H1 F1 fp1 E1 st1 a1 => hb σ H1 F1 fp1 E1 _ fun vy H2 F2 fp2 E2 st2 a2 =>
    ⟨F2, x, y, E2.ex, .inl (a1.ex st2.ex), .inl a2, hok, fun v H3 F3 g a => by
      have E3 := E2.grow g
      have st3 := (st1.trans st2).trans (E2.growS g)
      rw [hf] at a
      cases a
      refine ⟨k, rfl, ?_⟩
      cases k with
      | true =>
        refine hc rfl σ H3 F3 fp2 E3 _ fun vz H4 F4 fp4 E4 st4 a4 => ⟨F4, y, z, E4.ex, .inl (a2.ex (g.f.trans st4.ex)), .inl a4, hok' rfl, fun v H5 F5 g5 a5 => ?_⟩
        rw [hf' rfl] at a5
        exact q v H5 F5 fp4 (E4.grow g5) ((st3.trans st4).trans (E4.growS g5)) a5
      | false => exact q _ H3 F3 fp2 E3 st3 (.bl false)⟩
end
end DL

namespace DL
open PySem PySem.Spec PyProof.Rows L2
/-! ### statements -/
inductive Out where
  | nx (s : S) | bk (s : S) | rt (d : D) (s : S) | ro (r : Rs) (s : S) | ex (C : Addr) (fl : Str) (d : D) (s : S)
def OutOk (K : PySem.W.Frag) (E : XK) (H F : Hp) (fp : Fp) (Ed : Ends) : Out → Prop
  | .nx s' => ∀ σ' H' F' fp', EnvW K σ' s' H' F' fp' → Step H F fp H' F' fp' → Ed.nx σ' H'
  | .bk s' => ∀ σ' H' F' fp', EnvW K σ' s' H' F' fp' → Step H F fp H' F' fp' → Ed.bk σ' H'
  | .rt d s' => ∀ σ' v H' F' fp', EnvW K σ' s' H' F' fp' → Step H F fp H' F' fp' → At K F' v d → Ed.rt v H'
  | .ro r s' => ∀ σ' v H' F' fp' P, EnvW K σ' s' H' F' fp' → Step H F fp H' F' fp' → r.ok F' H' P (some (some v)) → Own H fp H' F' fp' P → Ed.rt v H'
  | .ex C fl d s' => ∀ σ' dd v H' F' fp', EnvW K σ' s' H' F' fp' → Step H F fp H' F' fp' → H' dd = some (.xd [(fl, v)]) → At K F' v d → E (.ref C) (some dd) H'
def Run (K : PySem.W.Frag) (E : XK) (ts : TS) (s : S) (o : Out) : Prop := ∀ σ H F fp, EnvW K σ s H F fp → ∀ Ed : Ends, OutOk K E H F fp Ed o → ts Ed σ H
theorem Own.step {H F H1 F1 H' F' : Hp} {fp fp1 fp' : Fp} {P : Addr → Prop} (st : Step H F fp H1 F1 fp1) (o : Own H1 fp1 H' F' fp' P) : Own H fp H' F' fp' P := ⟨o.nf, o.dj, o.th, fun b h => by
  rcases o.new b h with ⟨j, hj⟩ | hn
  · exact st.fpn j b hj
  · by_cases z : ∃ j, fp j b
    · exact .inl z
    · exact .inr fun l => hn (st.live l fun i hi => z ⟨i, hi⟩)⟩
theorem OutOk.step {K : PySem.W.Frag} {E : XK} {H F H1 F1 : Hp} {fp fp1 : Fp} {Ed : Ends} {o : Out} (h : OutOk K E H F fp Ed o) (st : Step H F fp H1 F1 fp1) : OutOk K E H1 F1 fp1 Ed o := by
  cases o with
  | nx s' => exact fun σ' H' F' fp' e st' => h σ' H' F' fp' e (st.trans st')
  | bk s' => exact fun σ' H' F' fp' e st' => h σ' H' F' fp' e (st.trans st')
  | rt d s' => exact fun σ' v H' F' fp' e st' a => h σ' v H' F' fp' e (st.trans st') a
  | ro r s' => exact fun σ' v H' F' fp' P e st' a o => h σ' v H' F' fp' P e (st.trans st') a (o.step st)
  | ex C fl d s' => exact fun σ' dd v H' F' fp' e st' a b => h σ' dd v H' F' fp' e (st.trans st') a b
def Out.ends : Out → Bool
  | .nx _ => false
  | _ => true
theorem OutOk.nx {K : PySem.W.Frag} {E : XK} {H F : Hp} {fp : Fp} {Ed : Ends} {N : L2.St → Hp → Prop} {o : Out} (h : OutOk K E H F fp Ed o) (e : o.ends = true) : OutOk K E H F fp { Ed with nx := N } o := by
  cases o with
  | nx s' => cases e
  | bk s' => exact h
  | rt d s' => exact h
  | ro r s' => exact h
  | ex C fl d s' => exact h
/-- what a state forgets -/
def SLe (s1 s2 : S) : Prop := s1.s.length = s2.s.length ∧ (∀ (i : Nat) (x : Sl), s2.s[i]? = some x → x = .unk ∨ s1.s[i]? = some x) ∧ s1.g = s2.g
theorem SLe.refl (s : S) : SLe s s := ⟨rfl, fun _ _ h => .inr h, rfl⟩
theorem EnvW.le {K : PySem.W.Frag} {σ : L2.St} {s1 s2 : S} {H F : Hp} {fp : Fp} (E : EnvW K σ s1 H F fp) (l : SLe s1 s2) : EnvW K σ s2 H F fp where
  ex := E.ex
  len := E.len.trans l.1
  sl := fun i x h => by
    rcases l.2.1 i x h with rfl | q
    · trivial
    · exact E.sl i x q
  tb := by rw [← l.2.2]; exact E.tb
  dj := E.dj
  nf := E.nf
  th := E.th
  nt := E.nt
/-- slot i gets an owned thing -/
theorem EnvW.setO {K : PySem.W.Frag} {σ : L2.St} {s : S} {H F H0 : Hp} {fp fp0 : Fp} {i : Nat} {v : V} {r : Rs} {P : Addr → Prop} (E : EnvW K σ s H F fp) (h : r.ok F H P (some (some v))) (o : Own H0 fp0 H F fp P) : EnvW K (σ.set i (some v)) (s.set i (.res r)) H F (fpSet fp (.inl i) P) where
  ex := E.ex
  len := by simp [S.set, E.len]
  sl := fun j y hj => by
    by_cases z : j = i
    · subst z
      have hl : j < s.s.length := by
        have := (List.getElem?_eq_some_iff.mp hj).1
        simpa [S.set] using this
      have e1 : (s.s.set j (.res r))[j]? = some (.res r) := List.getElem?_set_self hl
      rw [show (s.set j (.res r)).s = s.s.set j (.res r) from rfl, e1] at hj
      cases hj
      rw [fpSet_same, List.getElem?_set_self (by rw [E.len]; exact hl)]
      exact h
    · have e1 : (s.s.set i (.res r))[j]? = s.s[j]? := List.getElem?_set_ne (Ne.symm z)
      rw [show (s.set i (.res r)).s = s.s.set i (.res r) from rfl, e1] at hj
      rw [fpSet_ne (by intro q; cases q; exact z rfl), List.getElem?_set_ne (Ne.symm z)]
      exact E.sl j y hj
  tb := E.tb
  dj := fun j k b hjk h1 h2 => by
    by_cases z : j = .inl i
    · subst z; rw [fpSet_same] at h1; rw [fpSet_ne (Ne.symm hjk)] at h2; exact o.dj b k h1 h2
    · rw [fpSet_ne z] at h1
      by_cases y : k = .inl i
      · subst y; rw [fpSet_same] at h2; exact o.dj b j h2 h1
      · rw [fpSet_ne y] at h2; exact E.dj j k b hjk h1 h2
  nf := fun j b h1 => by
    by_cases z : j = .inl i
    · subst z; rw [fpSet_same] at h1; exact o.nf b h1
    · rw [fpSet_ne z] at h1; exact E.nf j b h1
  th := fun j b h1 => by
    by_cases z : j = .inl i
    · subst z; rw [fpSet_same] at h1; exact o.th b h1
    · rw [fpSet_ne z] at h1; exact E.th j b h1
  nt := E.nt
theorem Step.own {H F H' F' : Hp} {fp fp' : Fp} {P : Addr → Prop} {i : Ix} (st : Step H F fp H' F' fp') (o : Own H fp H' F' fp' P) : Step H F fp H' F' (fpSet fp' i P) := ⟨st.ex, st.new, st.keep, fun j b h => by
  by_cases z : j = i
  · subst z; rw [fpSet_same] at h; exact o.new b h
  · rw [fpSet_ne z] at h; exact st.fpn j b h, st.ext⟩
section
variable {K : PySem.W.Frag} {E : XK} {s s1 s2 s' : S} {te ta tb : TE} {t u ts : TS} {tt : TT} {d : D} {o : Out} {b : Bool}
theorem run_seq (h1 : Run K E t s (.nx s1)) (h2 : Run K E u s1 o) : Run K E (tSeq t u) s o := fun σ H F fp e Ed q =>
  h1 σ H F fp e _ fun σ' H' F' fp' e' st => h2 σ' H' F' fp' e' Ed (q.step st)
theorem run_end (h1 : Run K E t s o) (he : o.ends = true) : Run K E (tSeq t u) s o := fun σ H F fp e Ed q => h1 σ H F fp e _ (q.nx he)
theorem run_asg {i : Nat} (h : Ev K te s d s1) : Run K E (tAsg te (gName i)) s (.nx (s1.set i (.dat d))) := fun σ H F fp e Ed q =>
  h σ H F fp e _ fun v H' F' fp' e' st a => q _ H' F' _ (e'.set (i := i) ⟨v, rfl, a⟩) (st.trans Step.drop)
theorem run_asgO {i : Nat} {r : Rs} (h : EvO K te s r s1) : Run K E (tAsg te (gName i)) s (.nx (s1.set i (.res r))) := fun σ H F fp e Ed q =>
  h σ H F fp e _ fun v H' F' fp' P e' st a o => q _ H' F' _ (e'.setO (i := i) a o) (st.own o)
theorem run_drop (h : Ev K te s d s1) : Run K E (tDrop te) s (.nx s1) := fun σ H F fp e Ed q =>
  h σ H F fp e _ fun v H' F' fp' e' st a => q _ H' F' _ e' st
theorem run_ret (h : Ev K te s d s1) : Run K E (tRet te) s (.rt d s1) := fun σ H F fp e Ed q =>
  h σ H F fp e _ fun v H' F' fp' e' st a => q σ v H' F' _ e' st a
theorem run_retO {r : Rs} (h : EvO K te s r s1) : Run K E (tRet te) s (.ro r s1) := fun σ H F fp e Ed q =>
  h σ H F fp e _ fun v H' F' fp' P e' st a o => q σ v H' F' _ P e' st a o
theorem run_if (h : EvT K tt s b s1) (h1 : b = true → Run K E t s1 o) (h2 : b = false → Run K E u s1 o) : Run K E (tIfS tt t u) s o := fun σ H F fp e Ed q =>
  h σ H F fp e _ fun H1 F1 fp1 e1 st => by
    cases b with
    | true =>
      show t Ed σ H1
      exact h1 rfl σ H1 F1 fp1 e1 Ed (q.step st)
    | false =>
      show u Ed σ H1
      exact h2 rfl σ H1 F1 fp1 e1 Ed (q.step st)
theorem run_yes (h : EvT K tt s true s1) (h1 : Run K E t s1 o) : Run K E (tIfS tt t u) s o := run_if h (fun _ => h1) (fun z => nomatch z)
theorem run_no (h : EvT K tt s false s1) (h1 : Run K E u s1 o) : Run K E (tIfS tt t u) s o := run_if h (fun z => nomatch z) (fun _ => h1)
theorem run_next : Run K E tNext s (.nx s) := fun σ H F fp e Ed q => q σ H F fp e (Step.refl _ _ _)
theorem run_break : Run K E tBreak s (.bk s) := fun σ H F fp e Ed q => q σ H F fp e (Step.refl _ _ _)
theorem run_le (h : Run K E t s (.nx s1)) (l : SLe s1 s2) : Run K E t s (.nx s2) := fun σ H F fp e Ed q => h σ H F fp e Ed fun σ' H' F' fp' e' st => q σ' H' F' fp' (e'.le l) st
theorem run_pre (h : Run K E t s2 o) (l : SLe s1 s2) : Run K E t s1 o := fun σ H F fp e Ed q => h σ H F fp (e.le l) Ed q
/-- a, b = x, y (plain locals) -/
theorem run_par {i j : Nat} {d1 d2 : D} {ta : TA} (h : EvA K ta s [d1, d2] s1) : Run K E (tPar i j ta) s (.nx ((s1.set i (.dat d1)).set j (.dat d2))) := fun σ H F fp e Ed q =>
  h σ H F fp e _ fun vs H' F' fp' e' st a => by
    cases a with
    | cons a1 t1 => cases t1 with
      | cons a2 t2 => cases t2; exact ⟨_, _, rfl, q _ H' F' _ ((e'.set (i := i) (x := .dat d1) ⟨_, rfl, a1⟩).set (i := j) (x := .dat d2) ⟨_, rfl, a2⟩) ((st.trans Step.drop).trans Step.drop)⟩
theorem run_par3 {i j l : Nat} {d1 d2 d3 : D} {ta : TA} (h : EvA K ta s [d1, d2, d3] s1) : Run K E (tPar3 i j l ta) s (.nx (((s1.set i (.dat d1)).set j (.dat d2)).set l (.dat d3))) := fun σ H F fp e Ed q =>
  h σ H F fp e _ fun vs H' F' fp' e' st a => by
    cases a with
    | cons a1 t1 => cases t1 with
      | cons a2 t2 => cases t2 with
        | cons a3 t3 => cases t3; exact ⟨_, _, _, rfl, q _ H' F' _ (((e'.set (i := i) (x := .dat d1) ⟨_, rfl, a1⟩).set (i := j) (x := .dat d2) ⟨_, rfl, a2⟩).set (i := l) (x := .dat d3) ⟨_, rfl, a3⟩) (((st.trans Step.drop).trans Step.drop).trans Step.drop)⟩
/-! ### targets -/
def Tg (K : PySem.W.Frag) (g : TG) (s : S) (d : D) (s' : S) : Prop := ∀ σ H F fp v, EnvW K σ s H F fp → At K F v d → ∀ Q : L2.St → Hp → Prop, (∀ σ' fp', EnvW K σ' s' H F fp' → Step H F fp H F fp' → Q σ' H) → g v σ H Q
def Tgs (K : PySem.W.Frag) (g : TGs) (s : S) (ds : List D) (s' : S) : Prop := ∀ σ H F fp vs, EnvW K σ s H F fp → AtAll K F vs ds → ∀ Q : L2.St → Hp → Prop, (∀ σ' fp', EnvW K σ' s' H F fp' → Step H F fp H F fp' → Q σ' H) → g vs σ H Q
theorem tg_name {i : Nat} : Tg K (gName i) s d (s.set i (.dat d)) := fun σ H F fp v e a Q q => q _ _ (e.set (i := i) ⟨v, rfl, a⟩) Step.drop
theorem tg_nil : Tgs K gNil s [] s := fun σ H F fp vs e a Q q => by cases a; exact ⟨rfl, q σ fp e (Step.refl _ _ _)⟩
theorem tg_cons {g : TG} {gs : TGs} {ds : List D} (h1 : Tg K g s d s1) (h2 : Tgs K gs s1 ds s2) : Tgs K (gCons g gs) s (d :: ds) s2 := fun σ H F fp vs e a Q q => by
  cases a with
  | cons a1 t1 => exact ⟨_, _, rfl, h1 σ H F fp _ e a1 _ fun σ' fp' e' st => h2 σ' H F fp' _ e' t1 _ fun σ2 fp2 e2 st2 => q σ2 fp2 e2 (st.trans st2)⟩
theorem tg_tup {gs : TGs} {ds : List D} {n : Nat} (h : Tgs K gs s ds s') (hn : ds.length = n) : Tg K (gTup K n gs) s (.tuple ds) s' := fun σ H F fp v e a Q q => by
  cases a with
  | tup h1 h2 => exact ⟨_, _, rfl, e.ex.sqT h1, by rw [h2.length]; exact hn, h σ H F fp _ e h2 Q q⟩
theorem run_asgT {g : TG} (h : Ev K te s d s1) (hg : Tg K g s1 d s2) : Run K E (tAsg te g) s (.nx s2) := fun σ H F fp e Ed q =>
  h σ H F fp e _ fun v H' F' fp' e' st a => hg σ H' F' fp' v e' a _ fun σ2 fp2 e2 st2 => q σ2 H' F' fp2 e2 (st.trans st2)
/-! ### what is walked -/
def IsIt (K : PySem.W.Frag) (J : It) (F : Hp) (ds : List D) : Prop := ∀ F' H' (i : Nat), Ex F F' → Ex F' H' → (∀ d, ds[i]? = some d → J.go i H' ∧ ∀ x H2, J.yld i H' x H2 → ∃ F2, Grow F' H' F2 H2 ∧ At K F2 x d) ∧ (i = ds.length → J.stop i H')
def IterD (K : PySem.W.Frag) (wi : TI) (s : S) (ds : List D) (s1 : S) : Prop := ∀ σ H F fp, EnvW K σ s H F fp → ∀ R : It → Hp → Prop, (∀ J H1 F1 fp1, EnvW K σ s1 H1 F1 fp1 → Step H F fp H1 F1 fp1 → IsIt K J F1 ds → R J H1) → wi σ H R
theorem it_list {ds : List D} {tl : TE} (h : Ev K tl s (.list ds) s1) : IterD K (iList K tl) s ds s1 := fun σ H F fp e R r =>
  h σ H F fp e _ fun v H1 F1 fp1 e1 st1 a1 => by
    cases a1 with
    | @lst a vs _ ha hv =>
      refine ⟨a, rfl, ⟨vs, .inl (.inl (e1.ex _ _ ha))⟩, r _ H1 F1 fp1 e1 st1 fun F' H' i hF hH => ⟨fun d hd => ?_, fun hi => ?_⟩⟩
      · obtain ⟨x, hx, _⟩ := hv.get hd
        refine ⟨⟨vs, x, .inl (.inl (hH _ _ (hF _ _ ha))), hx⟩, fun y H2 hy => ?_⟩
        obtain ⟨rfl, hy⟩ := hy
        have hy := hy vs (.inl (.inl (hH _ _ (hF _ _ ha))))
        obtain ⟨d', hd', had⟩ := hv.getV hy
        rw [hd] at hd'
        cases hd'
        exact ⟨F', Grow.refl hH, had.ex hF⟩
      · exact ⟨vs, .inl (.inl (hH _ _ (hF _ _ ha))), by rw [hv.length]; exact Nat.le_of_eq hi.symm⟩
theorem it_tup {ds : List D} {tl : TE} (h : Ev K tl s (.tuple ds) s1) : IterD K (iTup K tl) s ds s1 := fun σ H F fp e R r =>
  h σ H F fp e _ fun v H1 F1 fp1 e1 st1 a1 => by
    cases a1 with
    | @tup a vs _ ha hv =>
      refine ⟨a, rfl, ⟨vs, e1.ex.sqT ha⟩, r _ H1 F1 fp1 e1 st1 fun F' H' i hF hH => ⟨fun d hd => ?_, fun hi => ?_⟩⟩
      · obtain ⟨x, hx, _⟩ := hv.get hd
        refine ⟨⟨vs, x, hH.sqT (hF.sqT ha), hx⟩, fun y H2 hy => ?_⟩
        obtain ⟨rfl, hy⟩ := hy
        have hy := hy vs (hH.sqT (hF.sqT ha))
        obtain ⟨d', hd', had⟩ := hv.getV hy
        rw [hd] at hd'
        cases hd'
        exact ⟨F', Grow.refl hH, had.ex hF⟩
      · exact ⟨vs, hH.sqT (hF.sqT ha), by rw [hv.length]; exact Nat.le_of_eq hi.symm⟩
/-- the ints lo, lo + 1, .. -/
def upTo (lo : Int) (n : Nat) : List D := (List.range n).map fun i => .int (lo + (i : Nat))
theorem upTo_get {lo : Int} {n i : Nat} {d : D} (h : (upTo lo n)[i]? = some d) : i < n ∧ d = .int (lo + i) := by
  unfold upTo at h
  rw [List.getElem?_map] at h
  cases q : (List.range n)[i]? with
  | none => rw [q] at h; cases h
  | some j =>
    obtain ⟨hl, hj⟩ := List.getElem?_eq_some_iff.mp q
    rw [List.length_range] at hl
    rw [q] at h
    simp at hj h
    subst hj
    exact ⟨hl, h.symm⟩
theorem upTo_len {lo : Int} {n : Nat} : (upTo lo n).length = n := by simp [upTo]
theorem isIt_rng {F : Hp} {lo : Int} {n : Nat} : IsIt K (Itr lo n) F (upTo lo n) := fun F' H' i hF hH => ⟨fun d hd => by
  obtain ⟨h1, rfl⟩ := upTo_get hd
  refine ⟨h1, fun x H2 hy => ?_⟩
  obtain ⟨rfl, rfl⟩ := hy
  exact ⟨F', Grow.refl hH, .int _⟩, fun h => by rw [upTo_len] at h; exact Nat.le_of_eq h.symm⟩
theorem it_rng1 {n : Int} {ta : TA} (h : EvA K ta s [.int n] s1) (hn : -(2 ^ 62) ≤ n ∧ n < 2 ^ 62) : IterD K (iRng1 ta) s (upTo 0 n.toNat) s1 := fun σ H F fp e R r =>
  h σ H F fp e _ fun vs H1 F1 fp1 e1 st1 a1 => by
    cases a1 with
    | cons x y => cases x; cases y; exact ⟨n, rfl, hn.1, hn.2, r _ H1 F1 fp1 e1 st1 isIt_rng⟩
theorem it_rng2 {m n : Int} {ta : TA} (h : EvA K ta s [.int m, .int n] s1) (hn : -(2 ^ 62) ≤ m ∧ m < 2 ^ 62 ∧ -(2 ^ 62) ≤ n ∧ n < 2 ^ 62) : IterD K (iRng2 ta) s (upTo m (n - m).toNat) s1 := fun σ H F fp e R r =>
  h σ H F fp e _ fun vs H1 F1 fp1 e1 st1 a1 => by
    cases a1 with
    | cons x y => cases x; cases y with
      | cons x y => cases x; cases y; exact ⟨m, n, rfl, hn, r _ H1 F1 fp1 e1 st1 isIt_rng⟩
/-! ### loops -/
/-- a loop's way out of its body -/
def Out.out : Out → Out
  | .bk s => .nx s
  | o => o
theorem out_ok {H F : Hp} {fp : Fp} {Ed : Ends} {N C : L2.St → Hp → Prop} {o : Out} (h : OutOk K E H F fp Ed o.out) (e : o.ends = true) : OutOk K E H F fp { Ed with nx := N, ct := C, bk := Ed.nx } o := by
  cases o with
  | nx s' => cases e
  | bk s' => exact h
  | rt d s' => exact h
  | ro r s' => exact h
  | ex C fl d s' => exact h
/-- m turns, then the end or a way out -/
theorem run_forG {ds : List D} {wi : TI} {g : TG} (f : Nat → S) (m : Nat) (hw : IterD K wi s ds s1) (h0 : SLe s1 (f 0)) (hm : m ≤ ds.length)
    (hs : ∀ i d, i < m → ds[i]? = some d → ∃ s2, Tg K g (f i) d s2 ∧ Run K E t s2 (.nx (f (i + 1))))
    (he : (m = ds.length ∧ o = .nx (f m)) ∨ ∃ d s2 o', ds[m]? = some d ∧ Tg K g (f m) d s2 ∧ Run K E t s2 o' ∧ o'.ends = true ∧ o = o'.out) : Run K E (tFor wi g t) s o := fun σ H F fp e Ed q =>
  hw σ H F fp e _ fun J H1 F1 fp1 e1 st1 hJ => by
    refine ⟨fun i k σ' H' => k = m - i ∧ i ≤ m ∧ ∃ F' fp', EnvW K σ' (f i) H' F' fp' ∧ Step H F fp H' F' fp' ∧ Ex F1 F', ⟨m, rfl, Nat.zero_le _, F1, fp1, e1.le h0, st1, Ex.refl F1⟩, ?_⟩
    rintro i k σ' H' ⟨rfl, hi, F', fp', e', st', hF⟩
    obtain ⟨hgo, hstop⟩ := hJ F' H' i hF e'.ex
    by_cases him : i < m
    · have hil : i < ds.length := by omega
      obtain ⟨d, hd⟩ : ∃ d, ds[i]? = some d := ⟨ds[i], by simp [hil]⟩
      obtain ⟨s2, hg, hr⟩ := hs i d him hd
      obtain ⟨g1, g2⟩ := hgo d hd
      refine .inr ⟨g1, fun σ3 H3 => ∃ F3 fp3, EnvW K σ3 (f (i + 1)) H3 F3 fp3 ∧ Step H F fp H3 F3 fp3 ∧ Ex F1 F3, fun σ3 H3 ⟨F3, fp3, a, b, c⟩ => ⟨m - (i + 1), by omega, rfl, by omega, F3, fp3, a, b, c⟩, fun x H2 hy => ?_⟩
      obtain ⟨F2, gr, ax⟩ := g2 x H2 hy
      have e2 := e'.grow gr
      have st2 := st'.trans (e'.growS gr)
      exact hg σ' H2 F2 fp' x e2 ax _ fun σ4 fp4 e4 st4 => hr σ4 H2 F2 fp4 e4 _ fun σ5 H5 F5 fp5 e5 st5 => ⟨F5, fp5, e5, (st2.trans st4).trans st5, (hF.trans gr.f).trans st5.ex⟩
    · have hie : i = m := by omega
      subst hie
      rcases he with ⟨he, rfl⟩ | ⟨d, s2, o', hd, hg, hr, hend, rfl⟩
      · exact .inl ⟨hstop (by omega), q σ' H' F' fp' e' st'⟩
      · obtain ⟨g1, g2⟩ := hgo d hd
        refine .inr ⟨g1, fun _ _ => False, fun _ _ z => z.elim, fun x H2 hy => ?_⟩
        obtain ⟨F2, gr, ax⟩ := g2 x H2 hy
        have e2 := e'.grow gr
        have st2 := st'.trans (e'.growS gr)
        exact hg σ' H2 F2 fp' x e2 ax _ fun σ4 fp4 e4 st4 => hr σ4 H2 F2 fp4 e4 _ (out_ok (q.step (st2.trans st4)) hend)
theorem run_for {ds : List D} {wi : TI} {g : TG} (f : Nat → S) (hw : IterD K wi s ds s1) (h0 : SLe s1 (f 0))
    (hs : ∀ i d, ds[i]? = some d → ∃ s2, Tg K g (f i) d s2 ∧ Run K E t s2 (.nx (f (i + 1)))) : Run K E (tFor wi g t) s (.nx (f ds.length)) :=
  run_forG f ds.length hw h0 (Nat.le_refl _) (fun i d _ h => hs i d h) (.inl ⟨rfl, rfl⟩)
/-- while: n turns, then the end or a way out -/
theorem run_whileG (f : Nat → S) (g : Nat → S) (m : Nat) (h0 : SLe s (f 0)) (hs : ∀ i, i < m → EvT K tt (f i) true (g i) ∧ Run K E t (g i) (.nx (f (i + 1))))
    (he : (EvT K tt (f m) false s1 ∧ o = .nx s1) ∨ ∃ o', EvT K tt (f m) true (g m) ∧ Run K E t (g m) o' ∧ o'.ends = true ∧ o = o'.out) : Run K E (tWhile tt t) s o := fun σ H F fp e Ed q => by
  refine ⟨fun k σ' H' => ∃ i, k = m - i ∧ i ≤ m ∧ ∃ F' fp', EnvW K σ' (f i) H' F' fp' ∧ Step H F fp H' F' fp', ⟨m, 0, rfl, Nat.zero_le _, F, fp, e.le h0, Step.refl _ _ _⟩, ?_⟩
  rintro k σ' H' ⟨i, rfl, hi, F', fp', e', st'⟩
  by_cases him : i < m
  · obtain ⟨h1, h2⟩ := hs i him
    refine h1 σ' H' F' fp' e' _ fun H1 F1 fp1 e1 st1 => ?_
    show ∃ N : L2.St → Hp → Prop, _
    exact ⟨fun σ3 H3 => ∃ F3 fp3, EnvW K σ3 (f (i + 1)) H3 F3 fp3 ∧ Step H F fp H3 F3 fp3, fun σ3 H3 ⟨F3, fp3, a, b⟩ => ⟨m - (i + 1), by omega, i + 1, rfl, by omega, F3, fp3, a, b⟩,
      h2 σ' H1 F1 fp1 e1 _ fun σ5 H5 F5 fp5 e5 st5 => ⟨F5, fp5, e5, (st'.trans st1).trans st5⟩⟩
  · have hie : i = m := by omega
    subst hie
    rcases he with ⟨h1, rfl⟩ | ⟨o', h1, h2, hend, rfl⟩
    · exact h1 σ' H' F' fp' e' _ fun H1 F1 fp1 e1 st1 => q σ' H1 F1 fp1 e1 (st'.trans st1)
    · refine h1 σ' H' F' fp' e' _ fun H1 F1 fp1 e1 st1 => ?_
      show ∃ N : L2.St → Hp → Prop, _
      exact ⟨fun _ _ => False, fun _ _ z => z.elim, h2 σ' H1 F1 fp1 e1 _ (out_ok (q.step (st'.trans st1)) hend)⟩
theorem run_while (f : Nat → S) (g : Nat → S) (m : Nat) (h0 : SLe s (f 0)) (hs : ∀ i, i < m → EvT K tt (f i) true (g i) ∧ Run K E t (g i) (.nx (f (i + 1)))) (he : EvT K tt (f m) false s1) : Run K E (tWhile tt t) s (.nx s1) :=
  run_whileG f g m h0 hs (.inl ⟨he, rfl⟩)
end
end DL

namespace DL
open PySem PySem.Spec PyProof.Rows L2
/-! ### comprehensions -/
theorem wipe_get : ∀ (vs : List Nat) (σ : L2.St) (i : Nat), (wipe σ vs)[i]? = if i ∈ vs then (if i < σ.length then some none else none) else σ[i]?
  | [], σ, i => by simp [wipe]
  | v :: vs, σ, i => by
    unfold wipe
    by_cases h : i = v
    · subst h
      by_cases hl : i < σ.length
      · rw [List.getElem?_set_self (by rw [wipe_length]; exact hl)]; simp [hl]
      · rw [List.getElem?_eq_none (by rw [List.length_set, wipe_length]; omega)]; simp [hl]
    · rw [List.getElem?_set_ne (Ne.symm h), wipe_get vs σ i]
      simp [h]
theorem wipe_wipe (σ : L2.St) (vs : List Nat) : wipe (wipe σ vs) vs = wipe σ vs := by
  apply List.ext_getElem?
  intro i
  rw [wipe_get, wipe_length, wipe_get]
  by_cases h : i ∈ vs <;> simp [h]
theorem wipe_set {σ : L2.St} {vs : List Nat} {j : Nat} {x : Option V} (h : j ∈ vs) : wipe (σ.set j x) vs = wipe σ vs := by
  apply List.ext_getElem?
  intro i
  rw [wipe_get, wipe_get, List.length_set]
  by_cases hi : i ∈ vs
  · simp [hi]
  · have : i ≠ j := fun z => hi (z ▸ h)
    simp [hi, List.getElem?_set_ne (Ne.symm this)]
def wipeL (l : List Sl) : List Nat → List Sl
  | [] => l
  | v :: vs => (wipeL l vs).set v .unk
def S.wipe (s : S) (vs : List Nat) : S := ⟨wipeL s.s vs, s.g⟩
theorem wipeL_length (l : List Sl) : ∀ vs : List Nat, (wipeL l vs).length = l.length
  | [] => rfl
  | v :: vs => by unfold wipeL; rw [List.length_set, wipeL_length l vs]
theorem wipeL_get : ∀ (vs : List Nat) (l : List Sl) (i : Nat), (wipeL l vs)[i]? = if i ∈ vs then (if i < l.length then some .unk else none) else l[i]?
  | [], l, i => by simp [wipeL]
  | v :: vs, l, i => by
    unfold wipeL
    by_cases h : i = v
    · subst h
      by_cases hl : i < l.length
      · rw [List.getElem?_set_self (by rw [wipeL_length]; exact hl)]; simp [hl]
      · rw [List.getElem?_eq_none (by rw [List.length_set, wipeL_length]; omega)]; simp [hl]
    · rw [List.getElem?_set_ne (Ne.symm h), wipeL_get vs l i]
      simp [h]
section
variable {K : PySem.W.Frag} {E : XK} {s s1 s2 s3 s' : S} {te ta tb : TE} {tt : TT} {d : D} {b : Bool} {σ : L2.St} {H F H' F' : Hp} {fp fp' : Fp}
theorem EnvW.wipe (e : EnvW K σ s H F fp) (vs : List Nat) : EnvW K (L2.wipe σ vs) (s.wipe vs) H F fp where
  ex := e.ex
  len := by rw [wipe_length, e.len]; exact (wipeL_length _ _).symm
  sl := fun i x h => by
    rw [show (s.wipe vs).s = wipeL s.s vs from rfl, wipeL_get] at h
    rw [wipe_get]
    by_cases hi : i ∈ vs
    · rw [if_pos hi] at h
      split at h
      · cases h; trivial
      · cases h
    · rw [if_neg hi] at h ⊢
      exact e.sl i x h
  tb := e.tb
  dj := e.dj
  nf := e.nf
  th := e.th
  nt := e.nt
/-- an untracked-by-us object at p (new since H1) is written -/
theorem mut_ext {p : Addr} {o : HO} {l : List V} (h : H p = some (.lst l)) : ExtKeep H (upd H p o) := fun b φ q => by
  rw [upd_ne fun z => by rw [z, h] at q; cases q]; exact q
theorem tabs_mut {T : List (Addr × Str)} {p : Addr} {o : HO} {l : List V} (t : LamX.Tabs T H) (h : H p = some (.lst l)) : LamX.Tabs T (upd H p o) := fun x hx => by
  obtain ⟨ps, h1, h2, h3⟩ := t x hx
  refine ⟨ps, by rw [upd_ne fun z => by rw [z, h] at h1; cases h1]; exact h1, h2, fun pos cv hc => ?_⟩
  obtain ⟨c, e1, e2⟩ := h3 pos cv hc
  exact ⟨c, e1, mut_ext h _ _ e2⟩
theorem EnvW.mut {p : Addr} {o : HO} {l : List V} (e : EnvW K σ s H F fp) (hl : H p = some (.lst l)) (h1 : F p = none) (h2 : ∀ i, ¬ fp i p) : EnvW K σ s (upd H p o) F fp where
  ex := fun a u q => by rw [upd_ne (ne_of_none q h1)]; exact e.ex a u q
  len := e.len
  sl := fun i x h => (e.sl i x h).mono (Ex.refl F) (fun b hb => upd_ne fun z => h2 _ (z ▸ hb)) (mut_ext hl)
  tb := tabs_mut e.tb hl
  dj := e.dj
  nf := e.nf
  th := fun i b h => by obtain ⟨u, q, n⟩ := e.th i b h; exact ⟨u, by rw [upd_ne fun z => h2 _ (z ▸ h)]; exact q, n⟩
  nt := e.nt
theorem Step.mut {p : Addr} {o : HO} (st : Step H F fp H' F' fp') (h : H p = none) : Step H F fp (upd H' p o) F' fp' :=
  ⟨st.ex, st.new, fun b u q x n => by rw [upd_ne (ne_of_none q h)]; exact st.keep b u q x n, st.fpn, fun b φ q => by rw [upd_ne (ne_of_none q h)]; exact st.ext b φ q⟩
def TgV (K : PySem.W.Frag) (vs : List Nat) (g : TG) (s : S) (d : D) (s' : S) : Prop := ∀ σ H F fp v, EnvW K σ s H F fp → At K F v d → ∀ Q : L2.St → Hp → Prop, (∀ σ' fp', EnvW K σ' s' H F fp' → Step H F fp H F fp' → wipe σ' vs = wipe σ vs → Q σ' H) → g v σ H Q
def TgVs (K : PySem.W.Frag) (vs : List Nat) (g : TGs) (s : S) (ds : List D) (s' : S) : Prop := ∀ σ H F fp us, EnvW K σ s H F fp → AtAll K F us ds → ∀ Q : L2.St → Hp → Prop, (∀ σ' fp', EnvW K σ' s' H F fp' → Step H F fp H F fp' → wipe σ' vs = wipe σ vs → Q σ' H) → g us σ H Q
variable {vs : List Nat}
theorem tv_name {i : Nat} (h : i ∈ vs) : TgV K vs (gName i) s d (s.set i (.dat d)) := fun σ H F fp v e a Q q => q _ _ (e.set (i := i) (x := .dat d) ⟨v, rfl, a⟩) Step.drop (wipe_set h)
theorem tv_nil : TgVs K vs gNil s [] s := fun σ H F fp us e a Q q => by cases a; exact ⟨rfl, q σ fp e (Step.refl _ _ _) rfl⟩
theorem tv_cons {g : TG} {gs : TGs} {ds : List D} (h1 : TgV K vs g s d s1) (h2 : TgVs K vs gs s1 ds s2) : TgVs K vs (gCons g gs) s (d :: ds) s2 := fun σ H F fp us e a Q q => by
  cases a with
  | cons a1 t1 => exact ⟨_, _, rfl, h1 σ H F fp _ e a1 _ fun σ' fp' e' st w1 => h2 σ' H F fp' _ e' t1 _ fun σ2 fp2 e2 st2 w2 => q σ2 fp2 e2 (st.trans st2) (w2.trans w1)⟩
theorem tv_tup {gs : TGs} {ds : List D} {n : Nat} (h : TgVs K vs gs s ds s') (hn : ds.length = n) : TgV K vs (gTup K n gs) s (.tuple ds) s' := fun σ H F fp v e a Q q => by
  cases a with
  | tup h1 h2 => exact ⟨_, _, rfl, e.ex.sqT h1, by rw [h2.length]; exact hn, h σ H F fp _ e h2 Q q⟩
/-- the list that a comprehension makes stands at p behind it -/
theorem lc_gen {ds : List D} {wi : TI} {g : TG} (f : Nat → S) (out : Nat → List D) (hw : IterD K wi s ds s1) (h0 : SLe (s1.wipe vs) (f 0)) (ho : out 0 = []) (hz : ds.length ≤ sizeLine)
    (hs : ∀ i d, ds[i]? = some d → ∃ s2 b s3, TgV K vs g (f i) d s2 ∧ EvT K tt s2 b s3 ∧ (b = true → ∃ y s4, Ev K te s3 y s4 ∧ SLe (s4.wipe vs) (f (i + 1)) ∧ out (i + 1) = out i ++ [y]) ∧ (b = false → SLe (s3.wipe vs) (f (i + 1)) ∧ out (i + 1) = out i))
    (e : EnvW K σ s H F fp) (Q : VK) (q : ∀ H1 F1 fp1 p H' F' fp' acc, EnvW K σ s1 H1 F1 fp1 → Step H F fp H1 F1 fp1 → H1 p = none → EnvW K (L2.wipe σ vs) (f ds.length) H' F' fp' → Step H1 F1 fp1 H' F' fp' → H' p = some (.lst acc) → AtAll K F' acc (out ds.length) → F' p = none → (∀ i, ¬ fp' i p) → Q (.ref p) H') : tLc wi g tt te vs σ H Q :=
  hw σ H F fp e _ fun J H1 F1 fp1 e1 st1 hJ p hp => by
    have e0 : EnvW K (L2.wipe σ vs) (f 0) (upd H1 p (.lst [])) F1 fp1 := (((e1.wipe vs).le h0).growH hp)
    have nfp : ∀ i, ¬ fp1 i p := fun i hi => (e1.th i p hi).ne hp rfl
    refine ⟨fun i k H' => k = ds.length - i ∧ i ≤ ds.length ∧ ∃ F' fp' acc, EnvW K (L2.wipe σ vs) (f i) H' F' fp' ∧ Step H1 F1 fp1 H' F' fp' ∧ H' p = some (.lst acc) ∧ AtAll K F' acc (out i) ∧ F' p = none ∧ (∀ i, ¬ fp' i p) ∧ acc.length ≤ i, ⟨ds.length, rfl, Nat.zero_le _, F1, fp1, [], e0, Step.growH hp, upd_same, by rw [ho]; exact .nil, e1.ex.un hp, nfp, Nat.zero_le _⟩, ?_⟩
    rintro i k H' ⟨rfl, hi, F', fp', acc, e', st', hacc, ha, hF, hfp, hlen⟩
    obtain ⟨hgo, hstop⟩ := hJ F' H' i st'.ex e'.ex
    by_cases hil : i < ds.length
    · obtain ⟨d, hd⟩ : ∃ d, ds[i]? = some d := ⟨ds[i], by simp [hil]⟩
      obtain ⟨s2, b, s3, hg, ht, hy, hn⟩ := hs i d hd
      obtain ⟨g1, g2⟩ := hgo d hd
      refine .inr ⟨g1, fun H3 => ∃ F3 fp3 acc, EnvW K (L2.wipe σ vs) (f (i + 1)) H3 F3 fp3 ∧ Step H1 F1 fp1 H3 F3 fp3 ∧ H3 p = some (.lst acc) ∧ AtAll K F3 acc (out (i + 1)) ∧ F3 p = none ∧ (∀ i, ¬ fp3 i p) ∧ acc.length ≤ i + 1, fun H3 ⟨F3, fp3, acc, h1, h2, h3, h4, h5, h6, h7⟩ => ⟨ds.length - (i + 1), by omega, rfl, by omega, F3, fp3, acc, h1, h2, h3, h4, h5, h6, h7⟩, fun x H2 hyl => ?_⟩
      obtain ⟨F2, gr, ax⟩ := g2 x H2 hyl
      have e2 := e'.grow gr
      have st2 := st'.trans (e'.growS gr)
      have hF2 : F2 p = none := gr.new p hF ⟨_, hacc⟩
      have hH2 : H2 p = some (.lst acc) := gr.h _ _ hacc
      refine hg _ H2 F2 fp' x e2 ax _ fun σ4 fp4 e4 st4 w4 => ⟨w4.trans (wipe_wipe σ vs), ?_⟩
      have keepP : ∀ {Ha Fa fa Hb Fb fb}, Step Ha Fa fa Hb Fb fb → Ha p = some (.lst acc) → Fa p = none → (∀ i, ¬ fa i p) → Hb p = some (.lst acc) ∧ Fb p = none ∧ ∀ i, ¬ fb i p := fun {Ha Fa fa Hb Fb fb} st a1 a2 a3 =>
        ⟨st.keep p _ a1 (by intro ps z; cases z) a3, st.new p a2 ⟨_, a1, by intro ps z; cases z⟩ a3, fun i hi => by
          rcases st.fpn i p hi with ⟨j, hj⟩ | h
          · exact a3 j hj
          · exact h ⟨_, a1, by intro ps z; cases z⟩⟩
      obtain ⟨k1, k2, k3⟩ := keepP st4 hH2 hF2 hfp
      refine ht σ4 H2 F2 fp4 e4 _ fun H5 F5 fp5 e5 st5 => ?_
      obtain ⟨l1, l2, l3⟩ := keepP st5 k1 k2 k3
      cases b with
      | true =>
        show te σ4 H5 _
        obtain ⟨y, s4, hye, hle, hout⟩ := hy rfl
        refine hye σ4 H5 F5 fp5 e5 _ fun v H6 F6 fp6 e6 st6 a6 => ?_
        obtain ⟨m1, m2, m3⟩ := keepP st6 l1 l2 l3
        refine ⟨acc, m1, by omega, F6, fp6, acc ++ [v], ?_, ?_, upd_same, ?_, m2, m3, by simp; omega⟩
        · have z := (e6.wipe vs).le hle
          rw [w4, wipe_wipe] at z
          exact z.mut m1 m2 m3
        · exact (((st2.trans st4).trans st5).trans st6).mut hp
        · rw [hout]
          exact (ha.ex ((gr.f.trans st4.ex).trans (st5.ex.trans st6.ex))).snoc a6
      | false =>
        obtain ⟨hle, hout⟩ := hn rfl
        show ∃ F3 fp3 acc, _
        refine ⟨F5, fp5, acc, ?_, (st2.trans st4).trans st5, l1, ?_, l2, l3, by omega⟩
        · have z := (e5.wipe vs).le hle
          rw [w4, wipe_wipe] at z
          exact z
        · rw [hout]
          exact ha.ex ((gr.f.trans st4.ex).trans st5.ex)
    · have hie : i = ds.length := by omega
      subst hie
      exact .inl ⟨hstop rfl, q H1 F1 fp1 p H' F' fp' acc e1 st1 hp e' st' hacc ha hF hfp⟩
/-- what comes back behind a comprehension: its own names are as before -/
def Back (vs : List Nat) (s1 sn s' : S) : Prop := s'.s.length = s1.s.length ∧ (∀ (i : Nat) (x : Sl), s'.s[i]? = some x → (i ∉ vs ∧ sn.s[i]? = some x) ∨ x = .unk ∨ (i ∈ vs ∧ s1.s[i]? = some x ∧ ∃ d, x = .dat d)) ∧ s'.g = sn.g
theorem EnvW.back {H1 F1 : Hp} {fp1 : Fp} {sn : S} (e1 : EnvW K σ s1 H1 F1 fp1) (hF : Ex F1 F) (e : EnvW K (L2.wipe σ vs) sn H F fp) (bk : Back vs s1 sn s') : EnvW K σ s' H F fp where
  ex := e.ex
  len := e1.len.trans bk.1.symm
  sl := fun i x h => by
    rcases bk.2.1 i x h with ⟨hi, q⟩ | rfl | ⟨_, q, d, rfl⟩
    · have z := e.sl i x q
      rw [wipe_get, if_neg hi] at z
      exact z
    · trivial
    · obtain ⟨v, h1, h2⟩ := e1.sl i _ q
      exact ⟨v, h1, h2.ex hF⟩
  tb := by rw [bk.2.2]; exact e.tb
  dj := e.dj
  nf := e.nf
  th := e.th
  nt := e.nt
theorem ev_lcG {ds : List D} {wi : TI} {g : TG} (f : Nat → S) (out : Nat → List D) (hw : IterD K wi s ds s1) (h0 : SLe (s1.wipe vs) (f 0)) (ho : out 0 = []) (hz : ds.length ≤ sizeLine)
    (hs : ∀ i d, ds[i]? = some d → ∃ s2 b s3, TgV K vs g (f i) d s2 ∧ EvT K tt s2 b s3 ∧ (b = true → ∃ y s4, Ev K te s3 y s4 ∧ SLe (s4.wipe vs) (f (i + 1)) ∧ out (i + 1) = out i ++ [y]) ∧ (b = false → SLe (s3.wipe vs) (f (i + 1)) ∧ out (i + 1) = out i))
    (bk : Back vs s1 (f ds.length) s') : Ev K (tLc wi g tt te vs) s (.list (out ds.length)) s' := fun σ H F fp e Q q =>
  lc_gen f out hw h0 ho hz hs e Q fun H1 F1 fp1 p H' F' fp' acc e1 st1 hp e' st' hacc ha hF hfp => by
    have eF : Ex F' (upd F' p (.lst acc)) := Ex.new hF
    have e2 : EnvW K σ s' H' F' fp' := e1.back st'.ex e' bk
    refine q (.ref p) H' (upd F' p (.lst acc)) fp' ⟨fun a u z => ?_, e2.len, fun i x h => (e2.sl i x h).mono eF (fun _ _ => rfl) (fun _ _ h => h), e2.tb, e2.dj, fun i b h => ?_, e2.th, fun b o z => ?_⟩
      ⟨(st1.trans st').ex.trans eF, fun b h1 h2 h3 => ?_, (st1.trans st').keep, (st1.trans st').fpn, (st1.trans st').ext⟩ (.lst upd_same (ha.ex eF))
    · by_cases y : a = p
      · subst y; rw [upd_same] at z; cases z; exact hacc
      · rw [upd_ne y] at z; exact e2.ex a u z
    · rw [upd_ne (fun (z : b = p) => hfp i (z ▸ h))]; exact e2.nf i b h
    · by_cases y : b = p
      · subst y; rw [upd_same] at z; cases z; intro ps w; cases w
      · rw [upd_ne y] at z; exact e2.nt b o z
    · have : b ≠ p := fun z => by
        subst z
        exact (st1.live h2 h3).ne hp rfl
      rw [upd_ne this]
      exact (st1.trans st').new b h1 h2 h3
theorem eo_lcG {ds : List D} {wi : TI} {g : TG} (f : Nat → S) (out : Nat → List D) (hw : IterD K wi s ds s1) (h0 : SLe (s1.wipe vs) (f 0)) (ho : out 0 = []) (hz : ds.length ≤ sizeLine)
    (hs : ∀ i d, ds[i]? = some d → ∃ s2 b s3, TgV K vs g (f i) d s2 ∧ EvT K tt s2 b s3 ∧ (b = true → ∃ y s4, Ev K te s3 y s4 ∧ SLe (s4.wipe vs) (f (i + 1)) ∧ out (i + 1) = out i ++ [y]) ∧ (b = false → SLe (s3.wipe vs) (f (i + 1)) ∧ out (i + 1) = out i))
    (bk : Back vs s1 (f ds.length) s') : EvO K (tLc wi g tt te vs) s (lstR K none (out ds.length)) s' := fun σ H F fp e Q q =>
  lc_gen f out hw h0 ho hz hs e Q fun H1 F1 fp1 p H' F' fp' acc e1 st1 hp e' st' hacc ha hF hfp => by
    refine q (.ref p) H' F' fp' (fun b => b = p) (e1.back st'.ex e' bk) (st1.trans st') ⟨p, acc, rfl, (fun _ z => nomatch z), fun _ => Iff.rfl, hacc, ha⟩ ⟨fun b h => h ▸ hF, fun b i h1 h2 => hfp i (h1 ▸ h2), fun b h => ⟨_, h ▸ hacc, by intro ps z; cases z⟩, fun b h => ?_⟩
    subst h
    by_cases y : ∃ j, fp j b
    · exact .inl y
    · exact .inr fun l => (st1.live l fun i hi => y ⟨i, hi⟩).ne hp rfl
/-- none of the slots vs holds an owned thing -/
def NoRes (s : S) (vs : List Nat) : Prop := ∀ (i : Nat) (x : Sl), i ∈ vs → s.s[i]? = some x → x = .unk ∨ ∃ d, x = .dat d
theorem back_same (h : NoRes s1 vs) : Back vs s1 (s1.wipe vs) s1 := ⟨rfl, fun i x q => by
  by_cases hi : i ∈ vs
  · rcases h i x hi q with r | r
    · exact .inr (.inl r)
    · exact .inr (.inr ⟨hi, q, r⟩)
  · refine .inl ⟨hi, ?_⟩
    rw [show (s1.wipe vs).s = wipeL s1.s vs from rfl, wipeL_get, if_neg hi]
    exact q, rfl⟩
/-- nothing but the list comes of it -/
theorem ev_lc {ds : List D} {wi : TI} {g : TG} (p : D → Bool) (y : D → D) (hw : IterD K wi s ds s1) (hz : ds.length ≤ sizeLine) (hr : NoRes s1 vs)
    (hs : ∀ d, d ∈ ds → ∃ s2, TgV K vs g (s1.wipe vs) d s2 ∧ SLe (s2.wipe vs) (s1.wipe vs) ∧ EvT K tt s2 (p d) s2 ∧ (p d = true → Ev K te s2 (y d) s2)) : Ev K (tLc wi g tt te vs) s (.list ((ds.filter p).map y)) s1 := by
  have := ev_lcG (K := K) (te := te) (tt := tt) (g := g) (vs := vs) (s' := s1) (fun _ => s1.wipe vs) (fun i => ((ds.take i).filter p).map y) hw (SLe.refl _) (by simp) hz (fun i d hd => ?_) (back_same hr)
  · simpa using this
  · obtain ⟨s2, h1, h2, h3, h4⟩ := hs d (List.mem_of_getElem? hd)
    have tk : ds.take (i + 1) = ds.take i ++ [d] := by rw [List.take_add_one, hd]; rfl
    refine ⟨s2, p d, s2, h1, h3, fun hb => ⟨y d, s2, h4 hb, h2, ?_⟩, fun hb => ⟨h2, ?_⟩⟩
    · simp [tk, List.filter_append, hb]
    · simp [tk, List.filter_append, hb]
theorem eo_lc {ds : List D} {wi : TI} {g : TG} (p : D → Bool) (y : D → D) (hw : IterD K wi s ds s1) (hz : ds.length ≤ sizeLine) (hr : NoRes s1 vs)
    (hs : ∀ d, d ∈ ds → ∃ s2, TgV K vs g (s1.wipe vs) d s2 ∧ SLe (s2.wipe vs) (s1.wipe vs) ∧ EvT K tt s2 (p d) s2 ∧ (p d = true → Ev K te s2 (y d) s2)) : EvO K (tLc wi g tt te vs) s (lstR K none ((ds.filter p).map y)) s1 := by
  have := eo_lcG (K := K) (te := te) (tt := tt) (g := g) (vs := vs) (s' := s1) (fun _ => s1.wipe vs) (fun i => ((ds.take i).filter p).map y) hw (SLe.refl _) (by simp) hz (fun i d hd => ?_) (back_same hr)
  · simpa using this
  · obtain ⟨s2, h1, h2, h3, h4⟩ := hs d (List.mem_of_getElem? hd)
    have tk : ds.take (i + 1) = ds.take i ++ [d] := by rw [List.take_add_one, hd]; rfl
    refine ⟨s2, p d, s2, h1, h3, fun hb => ⟨y d, s2, h4 hb, h2, ?_⟩, fun hb => ⟨h2, ?_⟩⟩
    · simp [tk, List.filter_append, hb]
    · simp [tk, List.filter_append, hb]
theorem et_yes : EvT K tYes s true s := fun σ H F fp e Q q => q H F fp e (Step.refl _ _ _)
end
end DL

namespace DL
open PySem PySem.Spec PyProof.Rows L2
/-! ### functions: R tells what comes of what -/
def FOk (K : PySem.W.Frag) (E : XK) (σ : L2.St) (H F : Hp) (fp : Fp) (Q : VK) : Out → Prop
  | .rt d s' => ∀ v H' F' fp', EnvW K σ s' H' F' fp' → Step H F fp H' F' fp' → At K F' v d → Q v H'
  | .ro r s' => ∀ v H' F' fp' P, EnvW K σ s' H' F' fp' → Step H F fp H' F' fp' → r.ok F' H' P (some (some v)) → Own H fp H' F' fp' P → Q v H'
  | .ex C fl d s' => ∀ dd v H' F' fp', EnvW K σ s' H' F' fp' → Step H F fp H' F' fp' → H' dd = some (.xd [(fl, v)]) → At K F' v d → E (.ref C) (some dd) H'
  | _ => False
abbrev FR := S → Out → Prop
def spF (K : PySem.W.Frag) (R : FR) : Sp := fun vs H Q E => ∃ s F fp o, EnvW K (vs.map some) s H F fp ∧ R s o ∧ FOk K E (vs.map some) H F fp Q o
/-- an owned thing that is told by its value -/
def Pin (r : Rs) (v : V) : Prop := ∀ {F H : Hp} {P : Addr → Prop} {sv : Option (Option V)}, r.ok F H P sv → r.ok F H P (some (some v))
theorem pin_lst {K : PySem.W.Frag} {v : V} {ds : List D} : Pin (lstR K (some v) ds) v := fun {F H P sv} ⟨a, vs, h1, h2, h3, h4, h5⟩ => ⟨a, vs, by rw [h2 v rfl], h2, h3, h4, h5⟩
section
variable {K : PySem.W.Frag} {E : XK} {s s1 s2 s' : S} {te ta tb : TE} {d : D} {σ : L2.St} {H F H' F' H1 F1 : Hp} {fp fp' fp1 fpc fpc' : Fp}
/-- the state at a def's entry: its other names hold nothing -/
def S.more (s : S) (m : Nat) : S := ⟨s.s ++ List.replicate m .unk, s.g⟩
theorem EnvW.enter {N : List Str} {vs : List V} (e : EnvW K (vs.map some) s H F fp) (hl : vs.length ≤ N.length) : EnvW K (L2.start N vs) (s.more (N.length - vs.length)) H F fp where
  ex := e.ex
  len := by
    have := e.len
    simp only [List.length_map] at this
    simp [L2.start, S.more, this]
  sl := fun i x h => by
    have hlen := e.len
    simp only [List.length_map] at hlen
    by_cases hi : i < s.s.length
    · have h' : s.s[i]? = some x := by
        rw [← h]; exact (List.getElem?_append_left hi).symm
      have z := e.sl i x h'
      have : (L2.start N vs)[i]? = (vs.map some)[i]? := by
        unfold L2.start
        rw [List.getElem?_append_left (by simp; omega)]
      rw [this]; exact z
    · have h' : x = .unk := by
        rw [show (s.more (N.length - vs.length)).s = s.s ++ List.replicate (N.length - vs.length) .unk from rfl, List.getElem?_append_right (by omega)] at h
        have := List.mem_of_getElem? h
        exact (List.mem_replicate.mp this).2
      subst h'; trivial
  tb := e.tb
  dj := e.dj
  nf := e.nf
  th := e.th
  nt := e.nt
/-- what stands behind a body, as its caller sees it -/
structure Leave (vs : List V) (s0 s1 s' : S) : Prop where
  len : s'.s.length = s0.s.length
  sl : ∀ (i : Nat) (x : Sl), s'.s[i]? = some x → x = .unk ∨ (∃ d, x = .dat d ∧ s0.s[i]? = some x) ∨ ∃ r v, x = .res r ∧ s1.s[i]? = some x ∧ vs[i]? = some v ∧ Pin r v
  g : s'.g = s1.g
theorem EnvW.leave {vs : List V} (e0 : EnvW K (vs.map some) s H F fp) (l : Leave vs s s1 s') (e : EnvW K σ s1 H' F' fp') (hF : Ex F F') : EnvW K (vs.map some) s' H' F' fp' where
  ex := e.ex
  len := e0.len.trans l.len.symm
  sl := fun i x h => by
    rcases l.sl i x h with rfl | ⟨d, rfl, h0⟩ | ⟨r, v, rfl, h1, hv, hp⟩
    · trivial
    · obtain ⟨v, h1, h2⟩ := e0.sl i _ h0
      exact ⟨v, h1, h2.ex hF⟩
    · have z : (vs.map some)[i]? = some (some v) := by rw [List.getElem?_map, hv]; rfl
      rw [z]
      exact hp (e.sl i _ h1)
  tb := by rw [l.g]; exact e.tb
  dj := e.dj
  nf := e.nf
  th := e.th
  nt := e.nt
/-- the outcome of a body as its caller sees it -/
inductive Ret (vs : List V) (s0 : S) : Out → Out → Prop
  | nx {s1 s' : S} : Leave vs s0 s1 s' → Ret vs s0 (.nx s1) (.rt .none s')
  | rt {d : D} {s1 s' : S} : Leave vs s0 s1 s' → Ret vs s0 (.rt d s1) (.rt d s')
  | ro {r : Rs} {s1 s' : S} : Leave vs s0 s1 s' → Ret vs s0 (.ro r s1) (.ro r s')
  | ex {C : Addr} {fl : Str} {d : D} {s1 s' : S} : Leave vs s0 s1 s' → Ret vs s0 (.ex C fl d s1) (.ex C fl d s')
/-- a body that runs keeps its promise -/
theorem run_body {N : List Str} {vs : List V} {t : TS} {R : FR} {Q : VK} (hl : vs.length ≤ N.length) (h : spF K R vs H Q E)
    (hr : ∀ s o, R s o → s.s.length = vs.length → (∀ F fp, EnvW K (vs.map some) s H F fp → ∃ o1, Run K E t (s.more (N.length - vs.length)) o1 ∧ Ret vs s o1 o)) : t { nx := fun _ H' => Q .non H', rt := Q } (L2.start N vs) H := by
  obtain ⟨s, F, fp, o, e, hR, hq⟩ := h
  have hlen : s.s.length = vs.length := by have := e.len; simp at this; exact this.symm
  obtain ⟨o1, h1, h2⟩ := hr s o hR hlen F fp e
  refine h1 _ H F fp (e.enter hl) _ ?_
  cases h2 with
  | nx l => exact fun σ' H' F' fp' e' st => hq .non H' F' fp' (e.leave l e' st.ex) st .non
  | rt l => exact fun σ' v H' F' fp' e' st a => hq v H' F' fp' (e.leave l e' st.ex) st a
  | ro l => exact fun σ' v H' F' fp' P e' st a o => hq v H' F' fp' P (e.leave l e' st.ex) st a o
  | ex l => exact fun σ' dd v H' F' fp' e' st a b => hq dd v H' F' fp' (e.leave l e' st.ex) st a b
/-- data alone -/
theorem leave_dat {vs : List V} {ds : List D} {g : List (Addr × Str)} {s1 : S} (hg : s1.g = g) : Leave vs ⟨ds.map .dat, g⟩ s1 ⟨ds.map .dat, g⟩ := ⟨rfl, fun i x h => .inr (.inl (by
  have hx : ∃ d, x = .dat d := by
    rw [List.getElem?_map] at h
    cases q : ds[i]? with
    | none => rw [q] at h; cases h
    | some d => rw [q] at h; exact ⟨d, (Option.some.inj h).symm⟩
  obtain ⟨d, rfl⟩ := hx
  exact ⟨d, rfl, h⟩)), hg.symm⟩
/-! ### the frame around a call -/
theorem frame {J : Ix → Prop} [DecidablePred J] {σc : L2.St} {sc' : S} (ρ : Ix → Ix) (e1 : EnvW K σ s1 H1 F1 fp1) (hρ : ∀ j k, J j → J k → ρ j = ρ k → j = k) (hP : ∀ i b, fpc i b → ∃ j, J j ∧ fp1 j b) (ec : EnvW K σc sc' H' F' fpc') (st : Step H1 F1 fpc H' F' fpc')
    (hlen : s2.s.length = s1.s.length) (hs : ∀ (i : Nat) (x : Sl), s2.s[i]? = some x → (J (.inl i) → SlOk K F' H' (fpc' (ρ (.inl i))) σ[i]? x) ∧ (¬ J (.inl i) → s1.s[i]? = some x))
    (hg : s2.g = sc'.g) :
    EnvW K σ s2 H' F' (fun j => if J j then fpc' (ρ j) else fp1 j) ∧ Step H1 F1 fp1 H' F' (fun j => if J j then fpc' (ρ j) else fp1 j) := by
  have notc : ∀ j b, ¬ J j → fp1 j b → ∀ i, ¬ fpc i b := fun j b hj hb i hi => by
    obtain ⟨k, hk, hkb⟩ := hP i b hi
    exact e1.dj j k b (fun z => hj (z ▸ hk)) hb hkb
  have keep : ∀ j b, ¬ J j → fp1 j b → H' b = H1 b := fun j b hj hb => by
    obtain ⟨o, q, n⟩ := e1.th j b hb
    rw [q, st.keep b o q n (notc j b hj hb)]
  have nodj : ∀ j b k, ¬ J j → fp1 j b → ¬ fpc' k b := fun j b k hj hb hk => by
    rcases st.fpn k b hk with ⟨m, hm⟩ | h
    · exact notc j b hj hb m hm
    · exact h (e1.th j b hb)
  refine ⟨⟨ec.ex, e1.len.trans hlen.symm, fun i x h => ?_, by rw [hg]; exact ec.tb, fun j k b hjk h1 h2 => ?_, fun j b h => ?_, fun j b h => ?_, ec.nt⟩, ⟨st.ex, fun b h1 h2 h3 => st.new b h1 h2 fun i hi => ?_, fun b o h1 n h2 => st.keep b o h1 n fun i hi => ?_, fun j b h => ?_, st.ext⟩⟩
  · by_cases hj : J (.inl i)
    · simp only [hj, if_true]; exact (hs i x h).1 hj
    · simp only [hj, if_false]
      exact (e1.sl i x ((hs i x h).2 hj)).mono st.ex (fun b hb => keep _ b hj hb) st.ext
  · by_cases hj : J j <;> by_cases hk : J k <;> simp only [hj, hk, if_true, if_false] at h1 h2
    · exact ec.dj _ _ b (fun z => hjk (hρ j k hj hk z)) h1 h2
    · exact nodj k b _ hk h2 h1
    · exact nodj j b _ hj h1 h2
    · exact e1.dj j k b hjk h1 h2
  · by_cases hj : J j <;> simp only [hj, if_true, if_false] at h
    · exact ec.nf _ b h
    · exact st.new b (e1.nf j b h) (e1.th j b h) (notc j b hj h)
  · by_cases hj : J j <;> simp only [hj, if_true, if_false] at h
    · exact ec.th _ b h
    · exact st.live (e1.th j b h) (notc j b hj h)
  · obtain ⟨j, _, hb⟩ := hP i b hi; exact h3 j hb
  · obtain ⟨j, _, hb⟩ := hP i b hi; exact h2 j hb
  · by_cases hj : J j <;> simp only [hj, if_true, if_false] at h
    · rcases st.fpn _ b h with ⟨i, hi⟩ | h
      · obtain ⟨k, _, hk⟩ := hP i b hi; exact .inl ⟨k, hk⟩
      · exact .inr h
    · exact .inl ⟨j, h⟩
abbrev noF : Fp := fun _ _ => False
theorem env_dat {vs : List V} {ds : List D} (e1 : EnvW K σ s1 H F fp1) (a : AtAll K F vs ds) : EnvW K (vs.map some) ⟨ds.map .dat, s1.g⟩ H F noF where
  ex := e1.ex
  len := by simp [a.length]
  sl := fun i x h => by
    rw [List.getElem?_map] at h
    cases q : ds[i]? with
    | none => rw [q] at h; cases h
    | some d =>
      rw [q] at h
      obtain ⟨v, hv, hd⟩ := a.get q
      cases h
      exact ⟨v, by rw [List.getElem?_map, hv]; rfl, hd⟩
  tb := e1.tb
  dj := fun _ _ _ _ h => h.elim
  nf := fun _ _ h => h.elim
  th := fun _ _ h => h.elim
  nt := e1.nt
/-! ### calls with data -/
theorem frame0 {σc : L2.St} {sc' : S} (e1 : EnvW K σ s1 H1 F1 fp1) (ec : EnvW K σc sc' H' F' fpc') (st : Step H1 F1 noF H' F' fpc') (hg : s1.g = sc'.g) : EnvW K σ s1 H' F' fp1 ∧ Step H1 F1 fp1 H' F' fp1 := by
  have h := frame (J := fun _ => False) (fun j => j) (s2 := s1) e1 (fun _ _ z => z.elim) (fun _ _ h => h.elim) ec st rfl (fun i x h => ⟨fun z => z.elim, fun _ => h⟩) hg
  simpa using h
theorem ev_call {R : FR} {ta : TA} {ds : List D} (ha : EvA K ta s ds s1) (hR : R ⟨ds.map .dat, s1.g⟩ (.rt d ⟨ds.map .dat, s1.g⟩)) : Ev K (tCall (spF K R) [] E ta) s d s1 := fun σ H F fp e Q q =>
  ha σ H F fp e _ fun vs H1 F1 fp1 e1 st1 a1 => by
    rw [List.append_nil]
    refine ⟨_, F1, noF, _, env_dat e1 a1, hR, fun v H' F' fp' e' st a => ?_⟩
    obtain ⟨e2, st2⟩ := frame0 e1 e' st rfl
    exact q v H' F' fp1 e2 (st1.trans st2) a
theorem eo_call {R : FR} {ta : TA} {ds : List D} {r : Rs} (ha : EvA K ta s ds s1) (hR : R ⟨ds.map .dat, s1.g⟩ (.ro r ⟨ds.map .dat, s1.g⟩)) : EvO K (tCall (spF K R) [] E ta) s r s1 := fun σ H F fp e Q q =>
  ha σ H F fp e _ fun vs H1 F1 fp1 e1 st1 a1 => by
    rw [List.append_nil]
    refine ⟨_, F1, noF, _, env_dat e1 a1, hR, fun v H' F' fp' P e' st a o => ?_⟩
    obtain ⟨e2, st2⟩ := frame0 e1 e' st rfl
    refine q v H' F' fp1 P e2 (st1.trans st2) a ⟨o.nf, fun b i hb hi => ?_, o.th, fun b hb => ?_⟩
    · rcases o.new b hb with ⟨j, hj⟩ | hn
      · exact hj
      · exact hn (e1.th i b hi)
    · rcases o.new b hb with ⟨j, hj⟩ | hn
      · exact hj.elim
      · by_cases y : ∃ j, fp j b
        · exact .inl y
        · exact .inr fun l => hn (st1.live l fun i hi => y ⟨i, hi⟩)
/-- by keywords -/
theorem ev_callK {R : FR} {ta tk : TA} {gV : List V → List V → List V} {ds es as : List D} (ha : EvA K ta s ds s1) (hk : EvA K tk s1 es s2) (hg : ∀ (F : Hp) vs zs, AtAll K F vs ds → AtAll K F zs es → AtAll K F (gV vs zs) as) (hR : R ⟨as.map .dat, s2.g⟩ (.rt d ⟨as.map .dat, s2.g⟩)) : Ev K (tCallK (spF K R) gV E ta tk) s d s2 := fun σ H F fp e Q q =>
  ha σ H F fp e _ fun vs H1 F1 fp1 e1 st1 a1 => hk σ H1 F1 fp1 e1 _ fun zs H2 F2 fp2 e2 st2 a2 => by
    refine ⟨_, F2, noF, _, env_dat e2 (hg F2 vs zs (a1.ex st2.ex) a2), hR, fun v H' F' fp' e' st a => ?_⟩
    obtain ⟨e3, st3⟩ := frame0 e2 e' st rfl
    exact q v H' F' fp2 e3 ((st1.trans st2).trans st3) a
/-- a call that raises -/
def EvR (K : PySem.W.Frag) (E : XK) (te : TE) (s : S) (C : Addr) (fl : Str) (d : D) (s' : S) : Prop := ∀ σ H F fp, EnvW K σ s H F fp → ∀ Q : VK, (∀ dd v H' F' fp', EnvW K σ s' H' F' fp' → Step H F fp H' F' fp' → H' dd = some (.xd [(fl, v)]) → At K F' v d → E (.ref C) (some dd) H') → te σ H Q
theorem er_call {R : FR} {ta : TA} {ds : List D} {C : Addr} {fl : Str} (ha : EvA K ta s ds s1) (hR : R ⟨ds.map .dat, s1.g⟩ (.ex C fl d ⟨ds.map .dat, s1.g⟩)) : EvR K E (tCall (spF K R) [] E ta) s C fl d s1 := fun σ H F fp e Q q =>
  ha σ H F fp e _ fun vs H1 F1 fp1 e1 st1 a1 => by
    rw [List.append_nil]
    refine ⟨_, F1, noF, _, env_dat e1 a1, hR, fun dd v H' F' fp' e' st a b => ?_⟩
    obtain ⟨e2, st2⟩ := frame0 e1 e' st rfl
    exact q dd v H' F' fp1 e2 (st1.trans st2) a b
theorem run_dropX {C : Addr} {fl : Str} (h : EvR K E te s C fl d s1) : Run K E (tDrop te) s (.ex C fl d s1) := fun σ H F fp e Ed q => h σ H F fp e _ fun dd v H' F' fp' e' st a b => q σ dd v H' F' fp' e' st a b
theorem run_retX {C : Addr} {fl : Str} (h : EvR K E te s C fl d s1) : Run K E (tRet te) s (.ex C fl d s1) := fun σ H F fp e Ed q => h σ H F fp e _ fun dd v H' F' fp' e' st a b => q σ dd v H' F' fp' e' st a b
/-- raise X(e), the wish E of the def -/
theorem run_raise {C : Addr} {fl : Str} {W : WX} {ta : TA} (h : EvA K ta s [d] s1) (hW : ∀ cls dd σ H, E cls dd H → W cls dd σ H) : Run K E (BX.tRaiseX C fl W ta) s (.ex C fl d s1) := fun σ H F fp e Ed q =>
  h σ H F fp e _ fun vs H1 F1 fp1 e1 st1 a1 => by
    cases a1 with
    | @cons v _ _ _ x y =>
      cases y
      refine ⟨v, rfl, fun dd hd => hW _ _ _ _ (q σ dd v _ F1 fp1 (e1.growH hd) (st1.trans (Step.growH hd)) upd_same x)⟩
/-! ### the first argument an owned list -/
theorem callL {R : FR} {tr : TA} {ds : List D} {i : Nat} {ov ov' : Option V} {es es1 : List D} {o : V → Out} {Q : VK} (e : EnvW K σ s H F fp) (hi : s.s[i]? = some (.res (lstR K ov es))) (ha : EvA K tr s ds s1) (hi1 : s1.s[i]? = some (.res (lstR K ov' es1)))
    (hR : ∀ v, R ⟨.res (lstR K (some v) es1) :: ds.map .dat, s1.g⟩ (o v))
    (hq : ∀ a vs H1 F1 fp1, EnvW K σ s1 H1 F1 fp1 → Step H F fp H1 F1 fp1 → σ[i]? = some (some (.ref a)) → (∀ v, ov' = some v → v = .ref a) → FOk K E ((.ref a :: vs).map some) H1 F1 (fun j b => j = .inl 0 ∧ b = a) Q (o (.ref a)) ∧ fp1 (.inl i) a) :
    tCall (spF K R) [] E (tCons (tVar i) tr) σ H Q := by
  obtain ⟨a, vs0, h1, _⟩ := e.own hi
  refine ⟨.ref a, h1, ha σ H F fp e _ fun vs H1 F1 fp1 e1 st1 a1 => ?_⟩
  show spF K R ((V.ref a :: vs) ++ []) H1 Q E
  rw [List.append_nil]
  obtain ⟨a', vs1, h1', h2', h3', h4', h5'⟩ := e1.sl i _ hi1
  rw [h1] at h1'
  cases h1'
  obtain ⟨hq1, hfa⟩ := hq a vs H1 F1 fp1 e1 st1 h1 h2'
  refine ⟨⟨.res (lstR K (some (.ref a)) es1) :: ds.map .dat, s1.g⟩, F1, fun j b => j = .inl 0 ∧ b = a, _, ⟨e1.ex, by simp [a1.length], fun k x hx => ?_, e1.tb, fun j k b hjk h1 h2 => hjk (h1.1.trans h2.1.symm), fun j b h => by rw [h.2]; exact e1.nf _ a hfa, fun j b h => by rw [h.2]; exact e1.th _ a hfa, e1.nt⟩, hR (.ref a), hq1⟩
  cases k with
  | zero =>
    simp at hx
    subst hx
    exact ⟨a, vs1, rfl, fun v hv => (Option.some.inj hv).symm, fun b => ⟨fun z => z.2, fun z => ⟨rfl, z⟩⟩, h4', h5'⟩
  | succ k =>
    simp at hx
    obtain ⟨d, hd, rfl⟩ := hx
    obtain ⟨v, hv, hdv⟩ := a1.get hd
    exact ⟨v, by simp [hv], hdv⟩
theorem frameL {i : Nat} {a : Addr} {vs : List V} {ov' : Option V} {es1 es2 : List D} {ts : List Sl} (e1 : EnvW K σ s1 H1 F1 fp1) (hi1 : s1.s[i]? = some (.res (lstR K ov' es1))) (hσ : σ[i]? = some (some (.ref a))) (hov : ∀ v, ov' = some v → v = .ref a) (hfa : fp1 (.inl i) a)
    (ec : EnvW K ((.ref a :: vs).map some) ⟨.res (lstR K (some (.ref a)) es2) :: ts, s1.g⟩ H' F' fpc') (st : Step H1 F1 (fun j b => j = .inl 0 ∧ b = a) H' F' fpc') : ∃ fp2, EnvW K σ (s1.set i (.res (lstR K ov' es2))) H' F' fp2 ∧ Step H1 F1 fp1 H' F' fp2 ∧ ∀ j b, fp2 j b → fp1 j b ∨ fpc' (.inl 0) b := by
  have hil : i < s1.s.length := (List.getElem?_eq_some_iff.mp hi1).1
  have h := frame (J := fun j => j = .inl i) (fun _ => .inl 0) (s2 := s1.set i (.res (lstR K ov' es2))) e1 (fun j k hj hk _ => hj.trans hk.symm) (fun (j : Ix) (b : Addr) (h : j = .inl 0 ∧ b = a) => ⟨.inl i, rfl, h.2 ▸ hfa⟩) ec st (by simp [S.set]) (fun k x hx => ⟨fun hk => ?_, fun hk => ?_⟩) rfl
  · refine ⟨_, h.1, h.2, fun j b hb => ?_⟩
    by_cases hj : j = .inl i
    · simp only [hj, if_true] at hb; exact .inr hb
    · simp only [hj, if_false] at hb; exact .inl hb
  · cases hk
    have z : (s1.set i (.res (lstR K ov' es2))).s[i]? = some (.res (lstR K ov' es2)) := List.getElem?_set_self hil
    rw [z] at hx
    cases hx
    obtain ⟨a', vs', q1, q2, q3, q4, q5⟩ := ec.sl 0 _ (by simp; rfl)
    have ea : a' = a := by
      have := q2 (.ref a) rfl
      cases this; rfl
    subst ea
    exact ⟨a', vs', hσ, hov, q3, q4, q5⟩
  · have : k ≠ i := fun z => hk (by rw [z])
    rw [show (s1.set i (.res (lstR K ov' es2))).s = s1.s.set i (.res (lstR K ov' es2)) from rfl, List.getElem?_set_ne (Ne.symm this)] at hx
    exact hx
/-- f(xs, ..), xs an owned list that f may change -/
theorem ev_callL {R : FR} {tr : TA} {ds : List D} {i : Nat} {ov ov' : Option V} {es es1 es2 : List D} (hi : s.s[i]? = some (.res (lstR K ov es))) (ha : EvA K tr s ds s1) (hi1 : s1.s[i]? = some (.res (lstR K ov' es1)))
    (hR : ∀ v, R ⟨.res (lstR K (some v) es1) :: ds.map .dat, s1.g⟩ (.rt d ⟨.res (lstR K (some v) es2) :: ds.map .dat, s1.g⟩)) : Ev K (tCall (spF K R) [] E (tCons (tVar i) tr)) s d (s1.set i (.res (lstR K ov' es2))) := fun σ H F fp e Q q => by
  refine callL e hi ha hi1 hR fun a vs H1 F1 fp1 e1 st1 hσ hov => ?_
  have hfa : fp1 (.inl i) a := by
    obtain ⟨a', _, h1, h2, _⟩ := e1.own hi1
    rw [hσ] at h1; cases h1
    exact (h2 a).mpr rfl
  refine ⟨fun v H' F' fp' e' st av => ?_, hfa⟩
  obtain ⟨fp2, e2, st2, _⟩ := frameL e1 hi1 hσ hov hfa e' st
  exact q v H' F' fp2 e2 (st1.trans st2) av
theorem er_callL {R : FR} {tr : TA} {ds : List D} {i : Nat} {ov ov' : Option V} {es es1 es2 : List D} {C : Addr} {fl : Str} (hi : s.s[i]? = some (.res (lstR K ov es))) (ha : EvA K tr s ds s1) (hi1 : s1.s[i]? = some (.res (lstR K ov' es1)))
    (hR : ∀ v, R ⟨.res (lstR K (some v) es1) :: ds.map .dat, s1.g⟩ (.ex C fl d ⟨.res (lstR K (some v) es2) :: ds.map .dat, s1.g⟩)) : EvR K E (tCall (spF K R) [] E (tCons (tVar i) tr)) s C fl d (s1.set i (.res (lstR K ov' es2))) := fun σ H F fp e Q q => by
  refine callL e hi ha hi1 hR fun a vs H1 F1 fp1 e1 st1 hσ hov => ?_
  have hfa : fp1 (.inl i) a := by
    obtain ⟨a', _, h1, h2, _⟩ := e1.own hi1
    rw [hσ] at h1; cases h1
    exact (h2 a).mpr rfl
  refine ⟨fun dd v H' F' fp' e' st av bv => ?_, hfa⟩
  obtain ⟨fp2, e2, st2, _⟩ := frameL e1 hi1 hσ hov hfa e' st
  exact q dd v H' F' fp2 e2 (st1.trans st2) av bv
/-- what the caller of a def with one owned list sees behind it -/
theorem leave_lst {v : V} {vs : List V} {es es2 : List D} {ds : List D} {g : List (Addr × Str)} {s1 : S} (hg : s1.g = g) (h : s1.s[0]? = some (.res (lstR K (some v) es2))) : Leave (v :: vs) ⟨.res (lstR K (some v) es) :: ds.map .dat, g⟩ s1 ⟨.res (lstR K (some v) es2) :: ds.map .dat, g⟩ := ⟨rfl, fun i x hx => by
  cases i with
  | zero =>
    simp at hx
    subst hx
    exact .inr (.inr ⟨_, v, rfl, h, rfl, pin_lst⟩)
  | succ k =>
    have hx' := hx
    simp at hx
    obtain ⟨d, _, rfl⟩ := hx
    exact .inr (.inl ⟨d, rfl, hx'⟩), hg.symm⟩
end
end DL

namespace DL
open PySem PySem.Spec PyProof.Rows L2
section
variable {K : PySem.W.Frag} {F H : Hp} {v : V}
/-- a list operand -/
theorem AtC.lst {ds : List D} (h : AtC K F H v (.list ds)) (e : Ex F H) : ∃ a vs, v = .ref a ∧ H a = some (.lst vs) ∧ AtAll K F vs ds := by
  rcases h with h | ⟨a, vs, ds', rfl, h1, h2, h3⟩
  · cases h with
    | lst h t => exact ⟨_, _, rfl, e _ _ h, t⟩
  · cases h1; exact ⟨a, vs, rfl, h2, h3⟩
theorem int_inj {ns ms : List Int} (h : ns.map PyData.int = ms.map PyData.int) : ns = ms := by
  induction ns generalizing ms with
  | nil => cases ms with
    | nil => rfl
    | cons => cases h
  | cons n ns ih => cases ms with
    | nil => cases h
    | cons m ms => simp at h; rw [h.1, ih (by simpa using h.2)]
theorem no_none_key {kvs : List (Key × V)} {ds : List (D × D)} {d : D} {r : List (D × D)} (h : AtKV K F kvs ds) : ds ≠ (.none, d) :: r := fun z => by
  cases h with
  | nil => cases z
  | @cons k v kvs d' ds' a b =>
    have := (List.cons.inj z).1
    cases k <;> cases this
theorem AtC.scr {ns : List Int} (h : AtC K F H v (.dict [(.none, .list (ns.map PyData.int))])) (e : Ex F H) : ∃ a, v = .ref a ∧ SqL K H a (ns.map V.int) := by
  rcases h with h | ⟨a, vs, ds', rfl, h1, h2, h3⟩
  · generalize hd : (PyData.dict [(.none, .list (ns.map PyData.int))]) = d at h
    cases h with
    | dic h t => exact absurd (PyData.dict.inj hd).symm (no_none_key t)
    | @scr a ms h =>
      have z := PyData.dict.inj hd
      have : ns = ms := int_inj (by
        have := (List.cons.inj z).1
        have := (Prod.mk.inj this).2
        exact PyData.list.inj this)
      subst this
      exact ⟨a, rfl, e.sqL h⟩
    | non => cases hd
    | bl b => cases hd
    | int i => cases hd
    | str x => cases hd
    | lst h t => cases hd
    | tup h t => cases hd
  · cases h1
theorem AtC.tup {ds : List D} (h : AtC K F H v (.tuple ds)) (e : Ex F H) : ∃ a vs, v = .ref a ∧ SqT K H a vs ∧ SqT K F a vs ∧ AtAll K F vs ds := by
  rcases h with h | ⟨a, vs, ds', rfl, h1, h2, h3⟩
  · cases h with
    | tup h t => exact ⟨_, _, rfl, e.sqT h, h, t⟩
  · cases h1
theorem AtC.int {i : Int} (h : AtC K F H v (.int i)) : v = .int i := by
  rcases h with h | ⟨a, vs, ds', rfl, h1, h2, h3⟩
  · cases h; rfl
  · cases h1
theorem AtC.bl {i : Bool} (h : AtC K F H v (.bool i)) : v = .bl i := by
  rcases h with h | ⟨a, vs, ds', rfl, h1, h2, h3⟩
  · cases h; rfl
  · cases h1
theorem AtC.str {i : Str} (h : AtC K F H v (.str i)) : v = .str i := by
  rcases h with h | ⟨a, vs, ds', rfl, h1, h2, h3⟩
  · cases h; rfl
  · cases h1
theorem AtC.non (h : AtC K F H v .none) : v = .non := by
  rcases h with h | ⟨a, vs, ds', rfl, h1, h2, h3⟩
  · cases h; rfl
  · cases h1
mutual
theorem flat_of_canLay : ∀ {d : D}, d.canLay0 = true → flat0 d = true
  | .none, _ => rfl
  | .bool _, _ => rfl
  | .int _, _ => rfl
  | .str _, _ => rfl
  | .list xs, h => by unfold flat0; exact flats_of_canLay (by unfold PyData.canLay0 at h; exact h)
  | .tuple xs, h => by unfold flat0; exact flats_of_canLay (by unfold PyData.canLay0 at h; exact h)
  | .dict _, h => by unfold PyData.canLay0 at h; cases h
theorem flats_of_canLay : ∀ {ds : List D}, PyData.canLayAll0 ds = true → flats0 ds = true
  | [], _ => rfl
  | x :: xs, h => by
    unfold PyData.canLayAll0 at h
    rw [Bool.and_eq_true] at h
    unfold flats0
    rw [flat_of_canLay h.1, flats_of_canLay h.2]; rfl
end
theorem AtC.dp {d : D} (h : AtC K F H v d) (e : Ex F H) (s : SeqAt.shaped d = true) : Dp K H v d := by
  have hf := flat_of_canLay (SeqAt.canLay_of_shaped s)
  rcases h with h | ⟨a, vs, ds, rfl, rfl, h2, h3⟩
  · exact h.dp e hf
  · exact .lst (.inl (.inl h2)) (AtAll.dp e h3 (by unfold flat0 at hf; exact hf))
end
/-! ### what the operators do to data -/
def addOk : D → D → Prop
  | .int _, .int _ => True
  | .str a, .str b => a.length + b.length ≤ sizeLine
  | .list a, .list b => a.length + b.length ≤ sizeLine
  | .tuple a, .tuple b => a.length + b.length ≤ sizeLine
  | .int _, .bool _ => True
  | _, _ => False
def addD : D → D → D
  | .int a, .int b => .int (a + b)
  | .str a, .str b => .str (a ++ b)
  | .list a, .list b => .list (a ++ b)
  | .tuple a, .tuple b => .tuple (a ++ b)
  | .int a, .bool b => .int (a + b2i b)
  | _, _ => .none
def subOk : D → D → Prop
  | .int _, .int _ => True
  | _, _ => False
def subD : D → D → D
  | .int a, .int b => .int (a - b)
  | _, _ => .none
def mulOk : D → D → Prop
  | .int a, .int b => CMul a b
  | .list a, .int k => -(2 ^ 63) ≤ k ∧ k < 2 ^ 63 ∧ a.length * k.toNat ≤ sizeLine
  | .tuple a, .int k => a ≠ [] ∧ 2 ≤ k ∧ k ≤ 1000 ∧ a.length ≤ 1000
  | _, _ => False
def mulD : D → D → D
  | .int a, .int b => .int (a * b)
  | .list a, .int k => .list (List.replicate k.toNat a).flatten
  | .tuple a, .int k => .tuple (List.replicate k.toNat a).flatten
  | _, _ => .none
def divOk : D → D → Prop
  | .int a, .int b => 0 < b ∧ b < 1073741824
  | _, _ => False
def divD : D → D → D
  | .int a, .int b => .int (a / b)
  | _, _ => .none
def modOk : D → D → Prop
  | .int _, .int b => 0 < b
  | _, _ => False
def modD : D → D → D
  | .int a, .int b => .int (a % b)
  | _, _ => .none
def powOk : D → D → Prop
  | .int a, .int b => CPow a b
  | _, _ => False
def powD : D → D → D
  | .int a, .int b => .int (a ^ b.toNat)
  | _, _ => .none
def ordOk : D → D → Prop
  | .int _, .int _ => True
  | _, _ => False
def ltD : D → D → D
  | .int a, .int b => .bool (decide (a < b))
  | _, _ => .none
def leD : D → D → D
  | .int a, .int b => .bool (decide (a ≤ b))
  | _, _ => .none
def gtD : D → D → D
  | .int a, .int b => .bool (decide (b < a))
  | _, _ => .none
def geD : D → D → D
  | .int a, .int b => .bool (decide (b ≤ a))
  | _, _ => .none
/-- < of ints, of texts, of tuples of ints -/
def intsOf : List D → Option (List Int)
  | [] => some []
  | .int i :: r => (intsOf r).map (i :: ·)
  | _ :: _ => none
theorem intsOf_eq : ∀ {ds : List D} {ns : List Int}, intsOf ds = some ns → ds = ns.map PyData.int
  | [], _, h => by cases h; rfl
  | .int i :: r, ns, h => by
    unfold intsOf at h
    cases q : intsOf r with
    | none => rw [q] at h; cases h
    | some l => rw [q] at h; cases h; rw [intsOf_eq q]; rfl
def ltXOk : D → D → Prop
  | .int _, .int _ => True
  | .str _, .str _ => True
  | .tuple a, .tuple b => (intsOf a).isSome = true ∧ (intsOf b).isSome = true
  | _, _ => False
def ltXD : D → D → D
  | .int a, .int b => .bool (decide (a < b))
  | .str a, .str b => .bool (decide (a.cps.toList < b.cps.toList))
  | .tuple a, .tuple b => .bool (HT.lexLt ((intsOf a).getD []) ((intsOf b).getD []))
  | _, _ => .none
def eqOk (x y : D) : Prop := SeqAt.shaped x = true ∧ SeqAt.shaped y = true
def eqD (x y : D) : D := .bool (PyData.eqv x y)
def neD (x y : D) : D := .bool (!PyData.eqv x y)
def isNoneB : D → Bool
  | .none => true
  | _ => false
def isOk (_ y : D) : Prop := y = .none
def isD (x _ : D) : D := .bool (isNoneB x)
def isnD (x _ : D) : D := .bool (!isNoneB x)
def isbOk : D → D → Prop
  | .bool _, .bool _ => True
  | _, _ => False
def isbD : D → D → D
  | .bool a, .bool b => .bool (decide (a = b))
  | _, _ => .none
def isnbD : D → D → D
  | .bool a, .bool b => .bool (!decide (a = b))
  | _, _ => .none
def inOk : D → D → Prop
  | x, .list ds => SeqAt.shaped x = true ∧ SeqAt.shaped (.list ds) = true
  | x, .tuple ds => SeqAt.shaped x = true ∧ SeqAt.shaped (.tuple ds) = true
  | _, _ => False
def inB : D → D → Bool
  | x, .list ds => ds.any fun z => PyData.eqv z x
  | x, .tuple ds => ds.any fun z => PyData.eqv z x
  | _, _ => false
def inD (x y : D) : D := .bool (inB x y)
def ninD (x y : D) : D := .bool (!inB x y)
/-- x[i] -/
def ixOk : D → D → Prop
  | .list ds, .int i => (atI ds i).isSome = true
  | .dict [(.none, .list ds)], .int i => (intsOf ds).isSome = true ∧ (atI ds i).isSome = true
  | .tuple ds, .int i => (atI ds i).isSome = true
  | .str z, .int i => z.length ≤ sizeLine ∧ (atI z.cps.toList i).isSome = true
  | _, _ => False
def ixD : D → D → D
  | .list ds, .int i => (atI ds i).getD .none
  | .dict [(.none, .list ds)], .int i => (atI ds i).getD .none
  | .tuple ds, .int i => (atI ds i).getD .none
  | .str z, .int i => .str ⟨#[(atI z.cps.toList i).getD 0]⟩
  | _, _ => .none
def negOk : D → Prop
  | .int _ => True
  | _ => False
def negD : D → D
  | .int a => .int (-a)
  | _ => .none
theorem atI_all {K : PySem.W.Frag} {F : Hp} {vs : List V} {ds : List D} {i : Int} {d : D} (h : AtAll K F vs ds) (e : atI ds i = some d) : ∃ v, atI vs i = some v ∧ At K F v d := by
  unfold atI at *
  rw [h.length]
  cases q : ixN ds.length i with
  | none => rw [q] at e; cases e
  | some j =>
    rw [q] at e
    exact h.get e
section
variable {X : Cx}
theorem op_addU : OpR X (binaryOp .Add) (rD2 X.K addOk addD) := by
  intro pins s σ H x y v u Q I rx ry ⟨F, dx, dy, e, hx, hy, ok, k⟩
  match dx, dy, ok with
  | .int i, .int j, _ =>
    have q1 := hx.int; have q2 := hy.int
    subst q1; subst q2
    exact op_add pins s σ H _ _ v u Q I rx ry ⟨i, j, rfl, rfl, k _ H F (Grow.refl e) (.int _)⟩
  | .int i, .bool j, _ =>
    have q1 := hx.int; have q2 := hy.bl
    subst q1; subst q2
    exact op_add_ib pins s σ H _ _ v u Q I rx ry ⟨i, j, rfl, rfl, k _ H F (Grow.refl e) (.int _)⟩
  | .str a, .str b, ok =>
    have q1 := hx.str; have q2 := hy.str
    subst q1; subst q2
    exact op_add_str pins s σ H _ _ v u Q I rx ry ⟨a, b, rfl, rfl, ok, k _ H F (Grow.refl e) (.str _)⟩
  | .list a, .list b, ok =>
    obtain ⟨p, vs, rfl, h1, h2⟩ := hx.lst e
    obtain ⟨q, ws, rfl, h3, h4⟩ := hy.lst e
    have ok : a.length + b.length ≤ sizeLine := ok
    refine op_cat pins s σ H _ _ v u Q I rx ry ⟨p, q, vs, ws, rfl, rfl, h1, h3, by rw [h2.length, h4.length]; exact ok, fun r hr => ?_⟩
    have g := Grow.laid (o := .lst (vs ++ ws)) e hr
    exact k _ _ _ g (.lst upd_same ((h2.append h4).ex g.f))
  | .tuple a, .tuple b, ok =>
    obtain ⟨p, vs, rfl, h1, h1', h2⟩ := hx.tup e
    obtain ⟨q, ws, rfl, h3, h3', h4⟩ := hy.tup e
    have ok : a.length + b.length ≤ sizeLine := ok
    refine op_catA pins s σ H _ _ v u Q I rx ry ⟨p, q, vs, ws, rfl, rfl, h1, h3, by rw [h2.length, h4.length]; exact ok, fun z => ?_, fun z z2 => ?_, fun z z2 r hr => ?_⟩
    · subst z
      cases h2
      exact k _ H F (Grow.refl e) (.tup h3' h4)
    · subst z2
      cases h4
      have : addD (.tuple a) (.tuple []) = .tuple a := by simp [addD]
      rw [this] at k
      exact k _ H F (Grow.refl e) (.tup h1' h2)
    · have g := Grow.laid (o := .tup (vs ++ ws)) e hr
      exact k _ _ _ g (.tup (.inl (.inl upd_same)) ((h2.append h4).ex g.f))
theorem op_subU : OpR X (binaryOp .Sub) (rD2 X.K subOk subD) := by
  intro pins s σ H x y v u Q I rx ry ⟨F, dx, dy, e, hx, hy, ok, k⟩
  match dx, dy, ok with
  | .int i, .int j, _ =>
    have q1 := hx.int; have q2 := hy.int
    subst q1; subst q2
    exact op_sub pins s σ H _ _ v u Q I rx ry ⟨i, j, rfl, rfl, k _ H F (Grow.refl e) (.int _)⟩
theorem AtAll.flat {K : PySem.W.Frag} {F : Hp} {vs : List V} {ds : List D} (h : AtAll K F vs ds) : ∀ n : Nat, AtAll K F (List.replicate n vs).flatten (List.replicate n ds).flatten
  | 0 => .nil
  | n + 1 => by rw [List.replicate_succ, List.replicate_succ, List.flatten_cons, List.flatten_cons]; exact h.append (AtAll.flat h n)
theorem op_mulU : OpR X (binaryOp .Mult) (rD2 X.K mulOk mulD) := by
  intro pins s σ H x y v u Q I rx ry ⟨F, dx, dy, e, hx, hy, ok, k⟩
  match dx, dy, ok with
  | .int i, .int j, ok =>
    have q1 := hx.int; have q2 := hy.int
    subst q1; subst q2
    exact op_mul pins s σ H _ _ v u Q I rx ry ⟨i, j, rfl, rfl, ok, k _ H F (Grow.refl e) (.int _)⟩
  | .list a, .int j, ok =>
    obtain ⟨p, vs, rfl, h1, h2⟩ := hx.lst e
    have q2 := hy.int
    subst q2
    obtain ⟨o1, o2, o3⟩ := ok
    refine op_rep pins s σ H _ _ v u Q I rx ry ⟨p, j, vs, rfl, rfl, h1, o1, o2, by rw [h2.length]; exact o3, fun r hr => ?_⟩
    have g := Grow.laid (o := .lst (List.replicate j.toNat vs).flatten) e hr
    exact k _ _ _ g (.lst upd_same ((h2.flat _).ex g.f))
  | .tuple a, .int j, ok =>
    obtain ⟨p, vs, rfl, h1, h1', h2⟩ := hx.tup e
    have q2 := hy.int
    subst q2
    obtain ⟨o0, o1, o2, o3⟩ := ok
    refine op_repT pins s σ H _ _ v u Q I rx ry ⟨p, j, vs, rfl, rfl, h1, (fun z => o0 (by cases h2 with | nil => rfl | cons _ _ => cases z)), o1, o2, by rw [h2.length]; exact o3, fun r hr => ?_⟩
    have g := Grow.laid (o := .tup (List.replicate j.toNat vs).flatten) e hr
    exact k _ _ _ g (.tup (.inl (.inl upd_same)) ((h2.flat _).ex g.f))
theorem op_divU : OpR X (binaryOp .FloorDiv) (rD2 X.K divOk divD) := by
  intro pins s σ H x y v u Q I rx ry ⟨F, dx, dy, e, hx, hy, ok, k⟩
  match dx, dy, ok with
  | .int i, .int j, ok =>
    have q1 := hx.int; have q2 := hy.int
    subst q1; subst q2
    exact op_fdiv pins s σ H _ _ v u Q I rx ry ⟨i, j, rfl, rfl, ok, k _ H F (Grow.refl e) (.int _)⟩
theorem op_modU : OpR X (binaryOp .Mod) (rD2 X.K modOk modD) := by
  intro pins s σ H x y v u Q I rx ry ⟨F, dx, dy, e, hx, hy, ok, k⟩
  match dx, dy, ok with
  | .int i, .int j, ok =>
    have q1 := hx.int; have q2 := hy.int
    subst q1; subst q2
    exact op_mod pins s σ H _ _ v u Q I rx ry ⟨i, j, rfl, rfl, ok, k _ H F (Grow.refl e) (.int _)⟩
theorem op_powU : OpR X (binaryOp .Pow) (rD2 X.K powOk powD) := by
  intro pins s σ H x y v u Q I rx ry ⟨F, dx, dy, e, hx, hy, ok, k⟩
  match dx, dy, ok with
  | .int i, .int j, ok =>
    have q1 := hx.int; have q2 := hy.int
    subst q1; subst q2
    exact op_pow pins s σ H _ _ v u Q I rx ry ⟨i, j, rfl, rfl, ok, k _ H F (Grow.refl e) (.int _)⟩
theorem op_leU : OpR X (compareOp .LtE) (rD2 X.K ordOk leD) := by
  intro pins s σ H x y v u Q I rx ry ⟨F, dx, dy, e, hx, hy, ok, k⟩
  match dx, dy, ok with
  | .int i, .int j, _ =>
    have q1 := hx.int; have q2 := hy.int
    subst q1; subst q2
    exact op_le pins s σ H _ _ v u Q I rx ry ⟨i, j, rfl, rfl, k _ H F (Grow.refl e) (.bl _)⟩
theorem op_gtU : OpR X (compareOp .Gt) (rD2 X.K ordOk gtD) := by
  intro pins s σ H x y v u Q I rx ry ⟨F, dx, dy, e, hx, hy, ok, k⟩
  match dx, dy, ok with
  | .int i, .int j, _ =>
    have q1 := hx.int; have q2 := hy.int
    subst q1; subst q2
    exact op_gt pins s σ H _ _ v u Q I rx ry ⟨i, j, rfl, rfl, k _ H F (Grow.refl e) (.bl _)⟩
theorem op_geU : OpR X (compareOp .GtE) (rD2 X.K ordOk geD) := by
  intro pins s σ H x y v u Q I rx ry ⟨F, dx, dy, e, hx, hy, ok, k⟩
  match dx, dy, ok with
  | .int i, .int j, _ =>
    have q1 := hx.int; have q2 := hy.int
    subst q1; subst q2
    exact op_ge pins s σ H _ _ v u Q I rx ry ⟨i, j, rfl, rfl, k _ H F (Grow.refl e) (.bl _)⟩
theorem op_ltU (hu : X.A.units < cLine) : OpR X (compareOp .Lt) (rD2 X.K ltXOk ltXD) := by
  intro pins s σ H x y v u Q I rx ry ⟨F, dx, dy, e, hx, hy, ok, k⟩
  match dx, dy, ok with
  | .int i, .int j, _ =>
    have q1 := hx.int; have q2 := hy.int
    subst q1; subst q2
    exact op_lt pins s σ H _ _ v u Q I rx ry ⟨i, j, rfl, rfl, k _ H F (Grow.refl e) (.bl _)⟩
  | .str i, .str j, _ =>
    have q1 := hx.str; have q2 := hy.str
    subst q1; subst q2
    exact op_lt_str pins s σ H _ _ v u Q I rx ry ⟨i, j, rfl, rfl, k _ H F (Grow.refl e) (.bl _)⟩
  | .tuple a, .tuple b, ok =>
    obtain ⟨p, vs, rfl, h1, h1', h2⟩ := hx.tup e
    obtain ⟨q, ws, rfl, h3, h3', h4⟩ := hy.tup e
    obtain ⟨o1, o2⟩ := ok
    obtain ⟨ns, hn⟩ := Option.isSome_iff_exists.mp o1
    obtain ⟨ms, hm⟩ := Option.isSome_iff_exists.mp o2
    have ea := intsOf_eq hn
    have eb := intsOf_eq hm
    subst ea; subst eb
    rw [h2.ints] at h1
    rw [h4.ints] at h3
    refine op_ltT hu pins s σ H _ _ v u Q I rx ry ⟨p, q, ns, ms, rfl, rfl, h1, h3, k _ H F (Grow.refl e) ?_⟩
    have : ltXD (.tuple (ns.map PyData.int)) (.tuple (ms.map PyData.int)) = .bool (HT.lexLt ns ms) := by simp [ltXD, hn, hm]
    rw [this]
    exact .bl _
theorem op_eqU (hu : X.A.units + 64 < cLine) : OpR X (compareOp .Eq) (rD2 X.K eqOk eqD) := by
  intro pins s σ H x y v u Q I rx ry ⟨F, dx, dy, e, hx, hy, ⟨o1, o2⟩, k⟩
  exact op_eqD hu pins s σ H _ _ v u Q I rx ry ⟨dx, dy, hx.dp e o1, hy.dp e o2, o1, o2, k _ H F (Grow.refl e) (.bl _)⟩
theorem op_neU (hu : X.A.units + 64 < cLine) : OpR X (compareOp .NotEq) (rD2 X.K eqOk neD) := by
  intro pins s σ H x y v u Q I rx ry ⟨F, dx, dy, e, hx, hy, ⟨o1, o2⟩, k⟩
  exact op_neD hu pins s σ H _ _ v u Q I rx ry ⟨dx, dy, hx.dp e o1, hy.dp e o2, o1, o2, k _ H F (Grow.refl e) (.bl _)⟩
theorem isNone_dec {K : PySem.W.Frag} {F H : Hp} {v : V} {d : D} (h : AtC K F H v d) : decide (v = .non) = isNoneB d := by
  rcases h with h | ⟨a, vs, ds, rfl, rfl, _⟩
  · cases h <;> rfl
  · rfl
theorem op_isU : OpR X (compareOp .Is) (rD2 X.K isOk isD) := by
  intro pins s σ H x y v u Q I rx ry ⟨F, dx, dy, e, hx, hy, ok, k⟩
  have ok : dy = .none := ok
  subst ok
  have q2 := hy.non
  subst q2
  refine op_isN pins s σ H _ _ v u Q I rx ry ⟨rfl, ?_⟩
  rw [isNone_dec hx]
  exact k _ H F (Grow.refl e) (.bl _)
theorem op_isnU : OpR X (compareOp .IsNot) (rD2 X.K isOk isnD) := by
  intro pins s σ H x y v u Q I rx ry ⟨F, dx, dy, e, hx, hy, ok, k⟩
  have ok : dy = .none := ok
  subst ok
  have q2 := hy.non
  subst q2
  refine op_notN pins s σ H _ _ v u Q I rx ry ⟨rfl, ?_⟩
  rw [isNone_dec hx]
  exact k _ H F (Grow.refl e) (.bl _)
theorem op_isbU : OpR X (compareOp .Is) (rD2 X.K isbOk isbD) := by
  intro pins s σ H x y v u Q I rx ry ⟨F, dx, dy, e, hx, hy, ok, k⟩
  match dx, dy, ok with
  | .bool i, .bool j, _ =>
    have q1 := hx.bl; have q2 := hy.bl
    subst q1; subst q2
    exact op_isBl pins s σ H _ _ v u Q I rx ry ⟨i, j, rfl, rfl, k _ H F (Grow.refl e) (.bl _)⟩
theorem op_isnbU : OpR X (compareOp .IsNot) (rD2 X.K isbOk isnbD) := by
  intro pins s σ H x y v u Q I rx ry ⟨F, dx, dy, e, hx, hy, ok, k⟩
  match dx, dy, ok with
  | .bool i, .bool j, _ =>
    have q1 := hx.bl; have q2 := hy.bl
    subst q1; subst q2
    exact op_notBl pins s σ H _ _ v u Q I rx ry ⟨i, j, rfl, rfl, k _ H F (Grow.refl e) (.bl _)⟩
theorem op_inU (hu : X.A.units + 65 < cLine) : OpR X (compareOp .In) (rD2 X.K inOk inD) := by
  intro pins s σ H x y v u Q I rx ry ⟨F, dx, dy, e, hx, hy, ok, k⟩
  match dy, ok with
  | .list ds, ⟨o1, o2⟩ => exact op_inD hu pins s σ H _ _ v u Q I rx ry ⟨dx, ds, hx.dp e o1, hy.dp e o2, o1, o2, k _ H F (Grow.refl e) (.bl _)⟩
  | .tuple ds, ⟨o1, o2⟩ =>
    obtain ⟨as, r1⟩ := Dp.reads I dx x v (hx.dp e o1) rx
    obtain ⟨bs, r2⟩ := Dp.reads I (.tuple ds) y u (hy.dp e o2) ry
    exact SeqAt.in_tuple_reads r2 r1 (SeqAt.canLay_of_shaped o2) (SeqAt.canLay_of_shaped o1) (room_in_shaped o1 hu) ⟨.bl _, H, I, rfl, k _ H F (Grow.refl e) (.bl _)⟩
theorem op_ninU (hu : X.A.units + 65 < cLine) : OpR X (compareOp .NotIn) (rD2 X.K inOk ninD) := by
  intro pins s σ H x y v u Q I rx ry ⟨F, dx, dy, e, hx, hy, ok, k⟩
  match dy, ok with
  | .list ds, ⟨o1, o2⟩ => exact op_notInD hu pins s σ H _ _ v u Q I rx ry ⟨dx, ds, hx.dp e o1, hy.dp e o2, o1, o2, k _ H F (Grow.refl e) (.bl _)⟩
  | .tuple ds, ⟨o1, o2⟩ =>
    obtain ⟨as, r1⟩ := Dp.reads I dx x v (hx.dp e o1) rx
    obtain ⟨bs, r2⟩ := Dp.reads I (.tuple ds) y u (hy.dp e o2) ry
    exact SeqAt.notIn_tuple_reads r2 r1 (SeqAt.canLay_of_shaped o2) (SeqAt.canLay_of_shaped o1) (room_in_shaped o1 hu) ⟨.bl _, H, I, rfl, k _ H F (Grow.refl e) (.bl _)⟩
theorem ix_U : IxR X (rD2 X.K ixOk ixD) := by
  intro va vb pins s σ H x y v u Q I rx ry ⟨F, dx, dy, e, hx, hy, ok, k⟩
  match dx, dy, ok with
  | .dict [(.none, .list ds)], .int i, ⟨o1, ok⟩ =>
    obtain ⟨ns, hn⟩ := Option.isSome_iff_exists.mp o1
    have ee := intsOf_eq hn
    subst ee
    obtain ⟨p, rfl, h1⟩ := hx.scr e
    have q2 := hy.int
    subst q2
    obtain ⟨d, hd⟩ := Option.isSome_iff_exists.mp ok
    obtain ⟨w, hw, ha⟩ := atI_all (K := X.K) (F := F) AtAll.of_ints hd
    have : ixD (.dict [(.none, .list (ns.map PyData.int))]) (.int i) = d := by simp [ixD, hd]
    rw [this] at k
    exact ix_list va vb pins s σ H _ _ v u Q I rx ry ⟨p, _, i, w, rfl, rfl, h1, hw, k _ H F (Grow.refl e) ha⟩
  | .list ds, .int i, ok =>
    obtain ⟨p, vs, rfl, h1, h2⟩ := hx.lst e
    have q2 := hy.int
    subst q2
    obtain ⟨d, hd⟩ := Option.isSome_iff_exists.mp ok
    obtain ⟨w, hw, ha⟩ := atI_all h2 hd
    have : ixD (.list ds) (.int i) = d := by simp [ixD, hd]
    rw [this] at k
    exact ix_list va vb pins s σ H _ _ v u Q I rx ry ⟨p, vs, i, w, rfl, rfl, .inl (.inl h1), hw, k _ H F (Grow.refl e) ha⟩
  | .tuple ds, .int i, ok =>
    obtain ⟨p, vs, rfl, h1, h1', h2⟩ := hx.tup e
    have q2 := hy.int
    subst q2
    obtain ⟨d, hd⟩ := Option.isSome_iff_exists.mp ok
    obtain ⟨w, hw, ha⟩ := atI_all h2 hd
    have : ixD (.tuple ds) (.int i) = d := by simp [ixD, hd]
    rw [this] at k
    exact ix_tup va vb pins s σ H _ _ v u Q I rx ry ⟨p, vs, i, w, rfl, rfl, h1, hw, k _ H F (Grow.refl e) ha⟩
  | .str z, .int i, ⟨o1, ok⟩ =>
    have q1 := hx.str; have q2 := hy.int
    subst q1; subst q2
    obtain ⟨d, hd⟩ := Option.isSome_iff_exists.mp ok
    have : ixD (.str z) (.int i) = .str ⟨#[d]⟩ := by simp [ixD, hd]
    rw [this] at k
    exact ix_str va vb pins s σ H _ _ v u Q I rx ry ⟨z, i, d, rfl, rfl, o1, hd, k _ H F (Grow.refl e) (.str _)⟩
theorem un_negU : UnR X (unaryOp .USub) (rD1 X.K negOk negD) := by
  intro pins s σ H x v Q I rx ⟨F, dx, e, hx, ok, k⟩
  match dx, ok with
  | .int i, _ =>
    have q1 := hx.int
    subst q1
    exact un_neg pins s σ H _ v Q I rx ⟨i, rfl, k _ H F (Grow.refl e) (.int _)⟩
end
end DL

namespace DL
open PySem PySem.Spec PyProof.Rows L2
/-! ### built-ins by data -/
def lenOk : List D → Prop
  | [.list _] => True
  | [.dict [(.none, .list ds)]] => (intsOf ds).isSome = true
  | [.tuple _] => True
  | [.str z] => z.length ≤ sizeLine
  | _ => False
def lenD : List D → D
  | [.list a] => .int a.length
  | [.dict [(.none, .list a)]] => .int a.length
  | [.tuple a] => .int a.length
  | [.str z] => .int z.length
  | _ => .none
def absOk : List D → Prop
  | [.int _] => True
  | _ => False
def absD : List D → D
  | [.int a] => .int (if a < 0 then -a else a)
  | _ => .none
def intOk : List D → Prop
  | [.int _] => True
  | [.bool _] => True
  | _ => False
def intD : List D → D
  | [.int a] => .int a
  | [.bool b] => .int (if b then 1 else 0)
  | _ => .none
def lmax (ns : List Int) : Int := ns.foldl max (ns.headD 0)
def lmin (ns : List Int) : Int := ns.foldl min (ns.headD 0)
def mmOk : List D → Prop
  | [.int _, .int _] => True
  | [.list ds] => ds ≠ [] ∧ (intsOf ds).isSome = true
  | _ => False
def maxD : List D → D
  | [.int a, .int b] => .int (max a b)
  | [.list ds] => .int (lmax ((intsOf ds).getD []))
  | _ => .none
def minD : List D → D
  | [.int a, .int b] => .int (min a b)
  | [.list ds] => .int (lmin ((intsOf ds).getD []))
  | _ => .none
def sumOk : List D → Prop
  | [.list ds] => (intsOf ds).isSome = true
  | _ => False
def sumD : List D → D
  | [.list ds] => .int ((intsOf ds).getD []).sum
  | _ => .none
def boolsOf : List D → Option (List Bool)
  | [] => some []
  | .bool i :: r => (boolsOf r).map (i :: ·)
  | _ :: _ => none
theorem boolsOf_eq : ∀ {ds : List D} {ns : List Bool}, boolsOf ds = some ns → ds = ns.map PyData.bool
  | [], _, h => by cases h; rfl
  | .bool i :: r, ns, h => by
    unfold boolsOf at h
    cases q : boolsOf r with
    | none => rw [q] at h; cases h
    | some l => rw [q] at h; cases h; rw [boolsOf_eq q]; rfl
theorem intsOf_map (ns : List Int) : intsOf (ns.map PyData.int) = some ns := by
  induction ns with
  | nil => rfl
  | cons n ns ih => simp [intsOf, ih]
theorem boolsOf_map (ns : List Bool) : boolsOf (ns.map PyData.bool) = some ns := by
  induction ns with
  | nil => rfl
  | cons n ns ih => simp [boolsOf, ih]
theorem AtAll.bools {K : PySem.W.Frag} {F : Hp} : ∀ {vs : List V} {ns : List Bool}, AtAll K F vs (ns.map PyData.bool) → vs = ns.map V.bl
  | [], [], .nil => rfl
  | _, n :: ns, .cons h t => by cases h; rw [AtAll.bools t]; rfl
def allOk : List D → Prop
  | [.list ds] => (boolsOf ds).isSome = true
  | _ => False
def allD : List D → D
  | [.list ds] => .bool (((boolsOf ds).getD []).all id)
  | _ => .none
def anyD : List D → D
  | [.list ds] => .bool (((boolsOf ds).getD []).any id)
  | _ => .none
def seqOk : List D → Prop
  | [.list _] => True
  | [.tuple _] => True
  | _ => False
def tupD : List D → D
  | [.list a] => .tuple a
  | [.tuple a] => .tuple a
  | _ => .none
def listD : List D → D
  | [.list a] => .list a
  | [.tuple a] => .list a
  | _ => .none
/-- the ints in order -/
def sortI (ns : List Int) : List Int := ns.mergeSort fun a b => decide (a ≤ b)
theorem sortI_perm (ns : List Int) : (sortI ns).Perm ns := List.mergeSort_perm _ _
theorem sortI_sorted (ns : List Int) : (sortI ns).Pairwise (· ≤ ·) := by
  have h := List.pairwise_mergeSort (le := fun a b : Int => decide (a ≤ b)) (fun a b c h1 h2 => by simp at *; omega) (fun a b => by simp; omega) ns
  exact h.imp fun h => by simpa using h
theorem sorted_unique : ∀ {l m : List Int}, l.Perm m → l.Pairwise (· ≤ ·) → m.Pairwise (· ≤ ·) → l = m
  | [], m, h, _, _ => by rw [List.Perm.nil_eq h]
  | x :: l, [], h, _, _ => by simpa using h.length_eq
  | x :: l, y :: m, h, h1, h2 => by
    have hx : x ∈ y :: m := h.subset (List.mem_cons_self)
    have hy : y ∈ x :: l := h.symm.subset (List.mem_cons_self)
    rw [List.pairwise_cons] at h1 h2
    have e : x = y := by
      rcases List.mem_cons.mp hx with e | hx
      · exact e
      · rcases List.mem_cons.mp hy with e | hy
        · exact e.symm
        · exact Int.le_antisymm (h1.1 y hy) (h2.1 x hx)
    subst e
    rw [sorted_unique (List.Perm.cons_inv h) h1.2 h2.2]
def sortOk : List D → Prop
  | [.list ds] => (intsOf ds).isSome = true
  | _ => False
def sortD : List D → D
  | [.list ds] => .list ((sortI ((intsOf ds).getD [])).map PyData.int)
  | _ => .none
theorem lmax_spec : ∀ (ns : List Int) (m : Int), m ∈ ns → (∀ y ∈ ns, y ≤ m) → lmax ns = m := by
  have key : ∀ (ns : List Int) (a : Int), (ns.foldl max a = a ∨ ns.foldl max a ∈ ns) ∧ a ≤ ns.foldl max a ∧ ∀ y ∈ ns, y ≤ ns.foldl max a := by
    intro ns
    induction ns with
    | nil => intro a; exact ⟨.inl rfl, Int.le_refl _, fun y h => by simp at h⟩
    | cons x ns ih =>
      intro a
      obtain ⟨h1, h2, h3⟩ := ih (max a x)
      simp only [List.foldl_cons]
      refine ⟨?_, by omega, fun y hy => ?_⟩
      · rcases h1 with h1 | h1
        · rw [h1]
          by_cases q : a ≤ x
          · right; rw [Int.max_eq_right q]; simp
          · left; omega
        · exact .inr (List.mem_cons_of_mem _ h1)
      · rcases List.mem_cons.mp hy with rfl | hy
        · omega
        · exact h3 y hy
  intro ns m hm hle
  cases ns with
  | nil => simp at hm
  | cons x ns =>
    unfold lmax
    obtain ⟨h1, h2, h3⟩ := key (x :: ns) x
    have h4 : (x :: ns).foldl max x ∈ x :: ns := by
      rcases h1 with h1 | h1
      · rw [h1]; simp
      · exact h1
    exact Int.le_antisymm (hle _ h4) (h3 m hm)
theorem lmin_spec : ∀ (ns : List Int) (m : Int), m ∈ ns → (∀ y ∈ ns, m ≤ y) → lmin ns = m := by
  have key : ∀ (ns : List Int) (a : Int), (ns.foldl min a = a ∨ ns.foldl min a ∈ ns) ∧ ns.foldl min a ≤ a ∧ ∀ y ∈ ns, ns.foldl min a ≤ y := by
    intro ns
    induction ns with
    | nil => intro a; exact ⟨.inl rfl, Int.le_refl _, fun y h => by simp at h⟩
    | cons x ns ih =>
      intro a
      obtain ⟨h1, h2, h3⟩ := ih (min a x)
      simp only [List.foldl_cons]
      refine ⟨?_, by omega, fun y hy => ?_⟩
      · rcases h1 with h1 | h1
        · rw [h1]
          by_cases q : x ≤ a
          · right; rw [Int.min_eq_right q]; simp
          · left; omega
        · exact .inr (List.mem_cons_of_mem _ h1)
      · rcases List.mem_cons.mp hy with rfl | hy
        · omega
        · exact h3 y hy
  intro ns m hm hle
  cases ns with
  | nil => simp at hm
  | cons x ns =>
    unfold lmin
    obtain ⟨h1, h2, h3⟩ := key (x :: ns) x
    have h4 : (x :: ns).foldl min x ∈ x :: ns := by
      rcases h1 with h1 | h1
      · rw [h1]; simp
      · exact h1
    exact Int.le_antisymm (h3 m hm) (hle _ h4)
section
variable {X : Cx}
theorem call_lenU : CallR X (.builtin "len") (rDn X.K lenOk lenD) := by
  intro pins s σ H xs us Q I r ⟨F, ds, e, ha, ok, k⟩
  match ds, ok, ha with
  | [.dict [(.none, .list a)]], o1, .cons h1 .nil =>
    obtain ⟨ns, hn⟩ := Option.isSome_iff_exists.mp o1
    have ee := intsOf_eq hn
    subst ee
    obtain ⟨p, rfl, h2⟩ := h1.scr e
    refine call_len_seq pins s σ H _ us Q I r ⟨p, _, rfl, .inl h2, ?_⟩
    have : lenD [.dict [(.none, .list (ns.map PyData.int))]] = .int ((ns.map V.int).length : Nat) := by simp [lenD]
    rw [this] at k
    exact k _ H F (Grow.refl e) (.int _)
  | [.list a], _, .cons h1 .nil =>
    obtain ⟨p, vs, rfl, h2, h3⟩ := h1.lst e
    refine call_len_seq pins s σ H _ us Q I r ⟨p, vs, rfl, .inl (.inl (.inl h2)), ?_⟩
    rw [h3.length]
    exact k _ H F (Grow.refl e) (.int _)
  | [.tuple a], _, .cons h1 .nil =>
    obtain ⟨p, vs, rfl, h2, _, h3⟩ := h1.tup e
    refine call_len_seq pins s σ H _ us Q I r ⟨p, vs, rfl, .inr h2, ?_⟩
    rw [h3.length]
    exact k _ H F (Grow.refl e) (.int _)
  | [.str z], ok, .cons h1 .nil =>
    have q := h1.str
    subst q
    exact call_len_str pins s σ H _ us Q I r ⟨z, rfl, ok, k _ H F (Grow.refl e) (.int _)⟩
theorem call_absU : CallR X (.builtin "abs") (rDn X.K absOk absD) := by
  intro pins s σ H xs us Q I r ⟨F, ds, e, ha, ok, k⟩
  match ds, ok, ha with
  | [.int a], _, .cons h1 .nil =>
    have q := h1.int
    subst q
    exact call_abs pins s σ H _ us Q I r ⟨a, rfl, k _ H F (Grow.refl e) (.int _)⟩
theorem call_intU : CallR X (.type "int") (rDn X.K intOk intD) := by
  intro pins s σ H xs us Q I r ⟨F, ds, e, ha, ok, k⟩
  match ds, ok, ha with
  | [.int a], _, .cons h1 .nil =>
    have q := h1.int
    subst q
    exact call_int1 pins s σ H _ us Q I r (.inl ⟨a, rfl, k _ H F (Grow.refl e) (.int _)⟩)
  | [.bool a], _, .cons h1 .nil =>
    have q := h1.bl
    subst q
    exact call_int1 pins s σ H _ us Q I r (.inr ⟨a, rfl, k _ H F (Grow.refl e) (.int _)⟩)
theorem call_maxU (hc : X.calm = true) : CallR X (.builtin "max") (rDn X.K mmOk maxD) := by
  intro pins s σ H xs us Q I r ⟨F, ds, e, ha, ok, k⟩
  match ds, ok, ha with
  | [.int a, .int b], _, .cons h1 (.cons h2 .nil) =>
    have q := h1.int; have q2 := h2.int
    subst q; subst q2
    refine call_max2 hc pins s σ H _ us Q I r ⟨a, b, rfl, ?_⟩
    have : (if b > a then b else a) = max a b := by omega
    rw [this]
    exact k _ H F (Grow.refl e) (.int _)
  | [.list ds], ⟨o1, o2⟩, .cons h1 .nil =>
    obtain ⟨p, vs, rfl, h2, h3⟩ := h1.lst e
    obtain ⟨ns, hn⟩ := Option.isSome_iff_exists.mp o2
    have ee := intsOf_eq hn
    subst ee
    rw [h3.ints] at h2
    refine cr_max hc pins s σ H _ us Q I r ⟨p, ns, rfl, .inl (.inl h2), by cases ns with | nil => exact absurd rfl o1 | cons _ _ => simp, fun m hm hle => ?_⟩
    have : maxD [.list (ns.map PyData.int)] = .int m := by simp only [maxD, hn, Option.getD_some]; rw [lmax_spec ns m hm hle]
    rw [this] at k
    exact k _ H F (Grow.refl e) (.int _)
theorem call_minU (hc : X.calm = true) : CallR X (.builtin "min") (rDn X.K mmOk minD) := by
  intro pins s σ H xs us Q I r ⟨F, ds, e, ha, ok, k⟩
  match ds, ok, ha with
  | [.int a, .int b], _, .cons h1 (.cons h2 .nil) =>
    have q := h1.int; have q2 := h2.int
    subst q; subst q2
    refine call_min2 hc pins s σ H _ us Q I r ⟨a, b, rfl, ?_⟩
    have : (if b < a then b else a) = min a b := by omega
    rw [this]
    exact k _ H F (Grow.refl e) (.int _)
  | [.list ds], ⟨o1, o2⟩, .cons h1 .nil =>
    obtain ⟨p, vs, rfl, h2, h3⟩ := h1.lst e
    obtain ⟨ns, hn⟩ := Option.isSome_iff_exists.mp o2
    have ee := intsOf_eq hn
    subst ee
    rw [h3.ints] at h2
    refine cr_min hc pins s σ H _ us Q I r ⟨p, ns, rfl, .inl (.inl h2), by cases ns with | nil => exact absurd rfl o1 | cons _ _ => simp, fun m hm hle => ?_⟩
    have : minD [.list (ns.map PyData.int)] = .int m := by simp only [minD, hn, Option.getD_some]; rw [lmin_spec ns m hm hle]
    rw [this] at k
    exact k _ H F (Grow.refl e) (.int _)
theorem call_sumU (hc : X.calm = true) : CallR X (.builtin "sum") (rDn X.K sumOk sumD) := by
  intro pins s σ H xs us Q I r ⟨F, ds, e, ha, ok, k⟩
  match ds, ok, ha with
  | [.list ds], o2, .cons h1 .nil =>
    obtain ⟨p, vs, rfl, h2, h3⟩ := h1.lst e
    obtain ⟨ns, hn⟩ := Option.isSome_iff_exists.mp o2
    have ee := intsOf_eq hn
    subst ee
    rw [h3.ints] at h2
    refine cr_sum hc pins s σ H _ us Q I r ⟨p, ns, rfl, .inl (.inl h2), ?_⟩
    have : sumD [.list (ns.map PyData.int)] = .int ns.sum := by simp only [sumD, hn, Option.getD_some]
    rw [this] at k
    exact k _ H F (Grow.refl e) (.int _)
theorem call_allU (hc : X.calm = true) : CallR X (.builtin "all") (rDn X.K allOk allD) := by
  intro pins s σ H xs us Q I r ⟨F, ds, e, ha, ok, k⟩
  match ds, ok, ha with
  | [.list ds], o2, .cons h1 .nil =>
    obtain ⟨p, vs, rfl, h2, h3⟩ := h1.lst e
    obtain ⟨ns, hn⟩ := Option.isSome_iff_exists.mp o2
    have ee := boolsOf_eq hn
    subst ee
    rw [h3.bools] at h2
    refine cr_all hc pins s σ H _ us Q I r ⟨p, ns, rfl, .inl (.inl h2), ?_⟩
    have : allD [.list (ns.map PyData.bool)] = .bool (ns.all id) := by simp only [allD, hn, Option.getD_some]
    rw [this] at k
    exact k _ H F (Grow.refl e) (.bl _)
theorem call_anyU (hc : X.calm = true) : CallR X (.builtin "any") (rDn X.K allOk anyD) := by
  intro pins s σ H xs us Q I r ⟨F, ds, e, ha, ok, k⟩
  match ds, ok, ha with
  | [.list ds], o2, .cons h1 .nil =>
    obtain ⟨p, vs, rfl, h2, h3⟩ := h1.lst e
    obtain ⟨ns, hn⟩ := Option.isSome_iff_exists.mp o2
    have ee := boolsOf_eq hn
    subst ee
    rw [h3.bools] at h2
    refine cr_any hc pins s σ H _ us Q I r ⟨p, ns, rfl, .inl (.inl h2), ?_⟩
    have : anyD [.list (ns.map PyData.bool)] = .bool (ns.any id) := by simp only [anyD, hn, Option.getD_some]
    rw [this] at k
    exact k _ H F (Grow.refl e) (.bl _)
theorem call_tupU : CallR X (.type "tuple") (rDn X.K seqOk tupD) := by
  intro pins s σ H xs us Q I r ⟨F, ds, e, ha, ok, k⟩
  match ds, ok, ha with
  | [.list a], _, .cons h1 .nil =>
    obtain ⟨p, vs, rfl, h2, h3⟩ := h1.lst e
    refine call_tuple_of pins s σ H _ us Q I r ⟨p, vs, rfl, .inl ⟨.inl (.inl h2), fun l hl => ?_⟩⟩
    have g := Grow.laid (o := .tup vs) e hl
    exact k _ _ _ g (.tup (.inl (.inl upd_same)) (h3.ex g.f))
  | [.tuple a], _, .cons h1 .nil =>
    obtain ⟨p, vs, rfl, h2, h2', h3⟩ := h1.tup e
    exact call_tuple_of pins s σ H _ us Q I r ⟨p, vs, rfl, .inr ⟨h2, k _ H F (Grow.refl e) (.tup h2' h3)⟩⟩
/-- list(xs): a new list, that may be owned -/
def rDl (K : PySem.W.Frag) (ok : List D → Prop) (f : List D → List D) : List V → Hp → VK → Prop := fun xs H Q => ∃ F ds, Ex F H ∧ AtCs K F H xs ds ∧ ok ds ∧ ∀ p vs, H p = none → AtAll K F vs (f ds) → Q (.ref p) (upd H p (.lst vs))
def itemsD : List D → List D
  | [.list a] => a
  | [.tuple a] => a
  | _ => []
theorem call_listU : CallR X (.type "list") (rDl X.K seqOk itemsD) := by
  intro pins s σ H xs us Q I r ⟨F, ds, e, ha, ok, k⟩
  match ds, ok, ha with
  | [.list a], _, .cons h1 .nil =>
    obtain ⟨p, vs, rfl, h2, h3⟩ := h1.lst e
    exact call_list_of pins s σ H _ us Q I r ⟨p, vs, rfl, .inl (.inl (.inl h2)), fun l hl => k l vs hl h3⟩
  | [.tuple a], _, .cons h1 .nil =>
    obtain ⟨p, vs, rfl, h2, _, h3⟩ := h1.tup e
    exact call_list_of pins s σ H _ us Q I r ⟨p, vs, rfl, .inr h2, fun l hl => k l vs hl h3⟩
def sortL : List D → List D
  | [.list ds] => (sortI ((intsOf ds).getD [])).map PyData.int
  | _ => []
theorem call_sortU : CallR X (.builtin "sorted") (rDl X.K sortOk sortL) := by
  intro pins s σ H xs us Q I r ⟨F, ds, e, ha, ok, k⟩
  match ds, ok, ha with
  | [.list ds], o2, .cons h1 .nil =>
    obtain ⟨p, vs, rfl, h2, h3⟩ := h1.lst e
    obtain ⟨ns, hn⟩ := Option.isSome_iff_exists.mp o2
    have ee := intsOf_eq hn
    subst ee
    rw [h3.ints] at h2
    refine cr_sortedI pins s σ H _ us Q I r ⟨p, ns, rfl, .inl (.inl h2), fun ns' q hp hs hq => ?_⟩
    have e1 : ns' = sortI ns := sorted_unique (hp.trans (sortI_perm ns).symm) hs (sortI_sorted ns)
    have : sortL [.list (ns.map PyData.int)] = (sortI ns).map PyData.int := by simp only [sortL, hn, Option.getD_some]
    rw [this] at k
    subst e1
    exact k q _ hq AtAll.of_ints
end
section
variable {K : PySem.W.Frag} {E : XK} {s s1 s2 s3 s' : S} {te ta tb ti : TE} {d x y : D} {σ : L2.St} {H F : Hp} {fp : Fp}
theorem ev_cl {ok : List D → Prop} {f : List D → List D} {t : TA} {ds : List D} (ha : EvA K t s ds s1) (h : ok ds) : Ev K (tCB (rDl K ok f) t) s (.list (f ds)) s1 := fun σ H F fp E Q q =>
  ha σ H F fp E _ fun vs H1 F1 fp1 E1 st1 a1 => ⟨F1, ds, E1.ex, AtCs.of a1, h, fun p ws hp hw => by
    have g : Grow F1 H1 (upd F1 p (.lst ws)) (upd H1 p (.lst ws)) := Grow.laid E1.ex hp
    exact q _ _ _ fp1 (E1.grow g) (st1.trans (E1.growS g)) (.lst upd_same (hw.ex g.f))⟩
theorem eo_cl {ok : List D → Prop} {f : List D → List D} {t : TA} {ds : List D} (ha : EvA K t s ds s1) (h : ok ds) : EvO K (tCB (rDl K ok f) t) s (lstR K none (f ds)) s1 := fun σ H F fp E Q q =>
  ha σ H F fp E _ fun vs H1 F1 fp1 E1 st1 a1 => ⟨F1, ds, E1.ex, AtCs.of a1, h, fun p ws hp hw =>
    q _ _ F1 fp1 (fun b => b = p) (E1.growH hp) (st1.trans (Step.growH hp)) ⟨p, ws, rfl, (fun _ z => nomatch z), fun _ => Iff.rfl, upd_same, hw⟩ (Own.laid E1 st1 hp)⟩
theorem ev_cl1 {ok : List D → Prop} {f : List D → List D} {i : Nat} {ov : Option V} {ds : List D} (hi : s.s[i]? = some (.res (lstR K ov ds))) (h : ok [.list ds]) : Ev K (tCB (rDl K ok f) (tCons (tVar i) tNil)) s (.list (f [.list ds])) s := fun σ H F fp E Q q => by
  obtain ⟨a, vs, h1, _, h4, h5⟩ := E.own hi
  exact ⟨.ref a, h1, F, [.list ds], E.ex, .cons (.inr ⟨_, _, _, rfl, rfl, h4, h5⟩) .nil, h, fun p ws hp hw => by
    have g : Grow F H (upd F p (.lst ws)) (upd H p (.lst ws)) := Grow.laid E.ex hp
    exact q _ _ _ fp (E.grow g) (E.growS g) (.lst upd_same (hw.ex g.f))⟩
theorem ev_lstRg {te : L2.St → Hp → (Int → Int → Hp → Prop) → Prop} {a b : Int} (h : ∀ σ H F fp, EnvW K σ s H F fp → ∀ Q : Int → Int → Hp → Prop, (∀ H' F' fp', EnvW K σ s1 H' F' fp' → Step H F fp H' F' fp' → Q a b H') → te σ H Q) (hr : RgOk a b) : Ev K (tLstRg te) s (.list (upTo a (b - a).toNat)) s1 := fun σ H F fp E Q q =>
  h σ H F fp E _ fun H1 F1 fp1 E1 st1 => ⟨hr, fun p hp => by
    have g : Grow F1 H1 (upd F1 p (.lst (rgV a b))) (upd H1 p (.lst (rgV a b))) := Grow.laid E1.ex hp
    refine q _ _ _ fp1 (E1.grow g) (st1.trans (E1.growS g)) (.lst upd_same ?_)
    have e1 : rgV a b = ((List.range (b - a).toNat).map fun (i : Nat) => a + (i : Int)).map V.int := by simp [rgV, Function.comp_def]
    have e2 : upTo a (b - a).toNat = ((List.range (b - a).toNat).map fun (i : Nat) => a + (i : Int)).map PyData.int := by simp [upTo, Function.comp_def]
    rw [e1, e2]
    exact AtAll.of_ints⟩
theorem ev_lstRg1 {n : Int} (h : Ev K ta s (.int n) s1) (hr : RgOk 0 n) : Ev K (tLstRg (tRg1 ta)) s (.list (upTo 0 n.toNat)) s1 := by
  have := ev_lstRg (K := K) (te := tRg1 ta) (s := s) (s1 := s1) (a := 0) (b := n) (fun σ H F fp E Q q => h σ H F fp E _ fun v H1 F1 fp1 E1 st1 a1 => by cases a1; exact ⟨n, rfl, q H1 F1 fp1 E1 st1⟩) hr
  simpa using this
theorem ev_lstRg2 {m n : Int} (h : Ev K ta s (.int m) s1) (h2 : Ev K tb s1 (.int n) s2) (hr : RgOk m n) : Ev K (tLstRg (tRg2 ta tb)) s (.list (upTo m (n - m).toNat)) s2 :=
  ev_lstRg (K := K) (te := tRg2 ta tb) (s := s) (s1 := s2) (a := m) (b := n) (fun σ H F fp E Q q => h σ H F fp E _ fun v H1 F1 fp1 E1 st1 a1 => h2 σ H1 F1 fp1 E1 _ fun w H2 F2 fp2 E2 st2 a2 => by cases a1; cases a2; exact ⟨m, n, rfl, rfl, q H2 F2 fp2 E2 (st1.trans st2)⟩) hr
/-! ### slices -/
def cutL {α : Type} (xs : List α) (lo hi : Option Int) : List α := (xs.drop (HT.sIx xs.length 0 lo)).take (HT.sIx xs.length xs.length hi - HT.sIx xs.length 0 lo)
theorem AtAll.cut {vs : List V} {ds : List D} {lo hi : Option Int} (h : AtAll K F vs ds) : AtAll K F (cutV vs lo hi) (cutL ds lo hi) := by
  unfold cutV cutL
  rw [h.length]
  exact (h.drop _).take _
def slOk : D → Prop
  | .list _ => True
  | .dict [(.none, .list ds)] => (intsOf ds).isSome = true
  | .tuple _ => True
  | .str z => z.length ≤ sizeLine
  | _ => False
def slD (lo hi : Option Int) : D → D
  | .list a => .list (cutL a lo hi)
  | .dict [(.none, .list a)] => .list (cutL a lo hi)
  | .tuple a => .tuple (cutL a lo hi)
  | .str z => .str (cutS z lo hi)
  | _ => .none
def rSlU (K : PySem.W.Frag) : V → Option Int → Option Int → Hp → VK → Prop := fun x lo hi H Q => ∃ F dx, Ex F H ∧ AtC K F H x dx ∧ slOk dx ∧ ∀ v H' F', Grow F H F' H' → At K F' v (slD lo hi dx) → Q v H'
theorem cut_whole {α : Type} {xs : List α} {lo hi : Option Int} (h : HT.sIx xs.length 0 lo = 0 ∧ HT.sIx xs.length xs.length hi = xs.length) : cutL xs lo hi = xs := by
  unfold cutL
  rw [h.1, h.2]; simp
theorem sl_U {X : Cx} : SlR X (rSlU X.K) := by
  intro pins s σ H x v vl vu lo hi sl Q I rx hs pl pu ⟨F, dx, e, hx, ok, k⟩
  match dx, ok with
  | .dict [(.none, .list a)], o1 =>
    obtain ⟨ns, hn⟩ := Option.isSome_iff_exists.mp o1
    have ee := intsOf_eq hn
    subst ee
    obtain ⟨p, rfl, h1⟩ := hx.scr e
    refine sl_list pins s σ H _ v vl vu lo hi sl Q I rx hs pl pu ⟨p, _, rfl, h1, fun q hq => ?_⟩
    have g := Grow.laid (o := .lst (cutV (ns.map V.int) lo hi)) e hq
    exact k _ _ _ g (.lst upd_same ((AtAll.of_ints (K := X.K) (F := F)).cut.ex g.f))
  | .list a, _ =>
    obtain ⟨p, vs, rfl, h1, h2⟩ := hx.lst e
    refine sl_list pins s σ H _ v vl vu lo hi sl Q I rx hs pl pu ⟨p, vs, rfl, .inl (.inl h1), fun q hq => ?_⟩
    have g := Grow.laid (o := .lst (cutV vs lo hi)) e hq
    exact k _ _ _ g (.lst upd_same (h2.cut.ex g.f))
  | .tuple a, _ =>
    obtain ⟨p, vs, rfl, h1, h1', h2⟩ := hx.tup e
    refine sl_tupA pins s σ H _ v vl vu lo hi sl Q I rx hs pl pu ⟨p, vs, rfl, h1, fun z => ?_, fun z q hq => ?_⟩
    · have : slD lo hi (.tuple a) = .tuple a := by
        show PyData.tuple (cutL a lo hi) = .tuple a
        rw [h2.length] at z
        rw [cut_whole z]
      rw [this] at k
      exact k _ H F (Grow.refl e) (.tup h1' h2)
    · have g := Grow.laid (o := .tup (cutV vs lo hi)) e hq
      exact k _ _ _ g (.tup (.inl (.inl upd_same)) (h2.cut.ex g.f))
  | .str z, ok =>
    have q1 := hx.str
    subst q1
    exact sl_str pins s σ H _ v vl vu lo hi sl Q I rx hs pl pu ⟨z, rfl, ok, k _ H F (Grow.refl e) (.str _)⟩
def EvP (K : PySem.W.Frag) (to : TO) (s : S) (o : Option Int) (s' : S) : Prop := ∀ σ H F fp, EnvW K σ s H F fp → ∀ Q : Option Int → Hp → Prop, (∀ H' F' fp', EnvW K σ s' H' F' fp' → Step H F fp H' F' fp' → Q o H') → to σ H Q
theorem ep_none : EvP K tNoPart s none s := fun σ H F fp E Q q => q H F fp E (Step.refl _ _ _)
theorem ep_some {i : Int} (h : Ev K te s (.int i) s1) : EvP K (tPart te) s (some i) s1 := fun σ H F fp E Q q =>
  h σ H F fp E _ fun v H1 F1 fp1 E1 st1 a1 => by cases a1; exact ⟨i, rfl, q H1 F1 fp1 E1 st1⟩
theorem ev_sl {tl th : TO} {lo hi : Option Int} (h : Ev K te s d s1) (h1 : EvP K tl s1 lo s2) (h2 : EvP K th s2 hi s3) (ok : slOk d) : Ev K (tSl (rSlU K) te tl th) s (slD lo hi d) s3 := fun σ H F fp E Q q =>
  h σ H F fp E _ fun v H1 F1 fp1 E1 st1 a1 => h1 σ H1 F1 fp1 E1 _ fun H2 F2 fp2 E2 st2 => h2 σ H2 F2 fp2 E2 _ fun H3 F3 fp3 E3 st3 =>
    ⟨F3, d, E3.ex, .inl ((a1.ex st2.ex).ex st3.ex), ok, fun v H' F' g a => q v H' F' fp3 (E3.grow g) (((st1.trans st2).trans st3).trans (E3.growS g)) a⟩
/-- of an owned list -/
theorem ev_slO {tl th : TO} {lo hi : Option Int} {i : Nat} {ov ov' : Option V} {ds ds' : List D} (h : s.s[i]? = some (.res (lstR K ov ds))) (h1 : EvP K tl s lo s2) (h2 : EvP K th s2 hi s3) (h3 : s3.s[i]? = some (.res (lstR K ov' ds'))) : Ev K (tSl (rSlU K) (tVar i) tl th) s (.list (cutL ds' lo hi)) s3 := fun σ H F fp E Q q => by
  obtain ⟨a, vs, e1, _⟩ := E.own h
  refine ⟨.ref a, e1, h1 σ H F fp E _ fun H2 F2 fp2 E2 st2 => h2 σ H2 F2 fp2 E2 _ fun H3 F3 fp3 E3 st3 => ?_⟩
  obtain ⟨a', vs', e1', _, h4, h5⟩ := E3.own h3
  rw [e1] at e1'
  cases e1'
  exact ⟨F3, .list ds', E3.ex, .inr ⟨_, _, _, rfl, rfl, h4, h5⟩, trivial, fun v H' F' g a => q v H' F' fp3 (E3.grow g) ((st2.trans st3).trans (E3.growS g)) a⟩
/-! ### owned lists are changed -/
theorem EnvW.put {i : Nat} {ov : Option V} {ds ds' : List D} {a : Addr} {vs' : List V} (E : EnvW K σ s H F fp) (hi : s.s[i]? = some (.res (lstR K ov ds))) (hσ : σ[i]? = some (some (.ref a))) (hv : AtAll K F vs' ds') :
    EnvW K σ (s.set i (.res (lstR K ov ds'))) (upd H a (.lst vs')) F fp ∧ Step H F fp (upd H a (.lst vs')) F fp := by
  obtain ⟨a', vs, h1, h2, h3, h4, h5⟩ := E.sl i _ hi
  rw [hσ] at h1
  cases h1
  have hfa : fp (.inl i) a := (h3 a).mpr rfl
  have hil : i < s.s.length := (List.getElem?_eq_some_iff.mp hi).1
  refine ⟨⟨fun b u q => ?_, by simp [S.set, E.len], fun j y hj => ?_, tabs_mut E.tb h4, E.dj, E.nf, fun j b h => ?_, E.nt⟩, ⟨Ex.refl F, fun _ h _ _ => h, fun b o h1 _ h2 => ?_, fun j b h => .inl ⟨j, h⟩, mut_ext h4⟩⟩
  · rw [upd_ne (ne_of_none q (E.nf _ a hfa))]; exact E.ex b u q
  · by_cases z : j = i
    · subst z
      have e1 : (s.s.set j (.res (lstR K ov ds')))[j]? = some (.res (lstR K ov ds')) := List.getElem?_set_self hil
      rw [show (s.set j (.res (lstR K ov ds'))).s = s.s.set j (.res (lstR K ov ds')) from rfl, e1] at hj
      cases hj
      exact ⟨a, vs', hσ, h2, h3, upd_same, hv⟩
    · have e1 : (s.s.set i (.res (lstR K ov ds')))[j]? = s.s[j]? := List.getElem?_set_ne (Ne.symm z)
      rw [show (s.set i (.res (lstR K ov ds'))).s = s.s.set i (.res (lstR K ov ds')) from rfl, e1] at hj
      exact (E.sl j y hj).mono (Ex.refl F) (fun b hb => upd_ne fun q => E.dj (.inl j) (.inl i) b (by intro w; cases w; exact z rfl) hb (q ▸ hfa)) (mut_ext h4)
  · by_cases z : b = a
    · subst z; exact ⟨_, upd_same, by intro ps z; cases z⟩
    · obtain ⟨o, q, n⟩ := E.th j b h; exact ⟨o, by rw [upd_ne z]; exact q, n⟩
  · have : b ≠ a := fun q => h2 (.inl i) (q ▸ hfa)
    rw [upd_ne this]; exact h1
/-- xs.append(e) -/
theorem run_append {i : Nat} {ov ov' : Option V} {ds ds' : List D} (hi : s.s[i]? = some (.res (lstR K ov ds))) (h : Ev K te s d s1) (hi1 : s1.s[i]? = some (.res (lstR K ov' ds'))) (hz : ds'.length < sizeLine) :
    Run K E (tDrop (tBM K "list" rAppend (tVar i) (tCons te tNil))) s (.nx (s1.set i (.res (lstR K ov' (ds' ++ [d]))))) := fun σ H F fp e Ed q => by
  obtain ⟨a, vs, h1, _, h4, h5⟩ := e.own hi
  refine ⟨.ref a, h1, .inl ⟨rfl, _, .inl (.inl h4)⟩, h σ H F fp e _ fun v H1 F1 fp1 e1 st1 a1 => ?_⟩
  obtain ⟨a', vs', h1', _, h4', h5'⟩ := e1.own hi1
  rw [h1] at h1'
  cases h1'
  refine ⟨a, vs', v, rfl, rfl, h4', by rw [h5'.length]; exact hz, ?_⟩
  obtain ⟨e2, st2⟩ := e1.put hi1 h1 (h5'.snoc a1)
  exact q σ _ F1 fp1 e2 (st1.trans st2)
/-- xs[k] = e -/
theorem run_setL {i j : Nat} {ov ov' : Option V} {ds ds' : List D} {k : Int} (h : Ev K te s d s1) (hi : s1.s[i]? = some (.res (lstR K ov ds))) (hk : Ev K ti s1 (.int k) s2) (hi2 : s2.s[i]? = some (.res (lstR K ov' ds'))) (hj : ixN ds'.length k = some j) :
    Run K E (tAsg te (gSub (tVar i) ti rSetL)) s (.nx (s2.set i (.res (lstR K ov' (ds'.set j d))))) := fun σ H F fp e Ed q =>
  h σ H F fp e _ fun v H1 F1 fp1 e1 st1 a1 => by
    obtain ⟨a, vs, h1, _⟩ := e1.own hi
    refine ⟨.ref a, h1, hk σ H1 F1 fp1 e1 _ fun w H2 F2 fp2 e2 st2 a2 => ?_⟩
    cases a2
    obtain ⟨a', vs', h1', _, h4', h5'⟩ := e2.own hi2
    rw [h1] at h1'
    cases h1'
    refine ⟨a, vs', k, j, rfl, rfl, h4', by rw [h5'.length]; exact hj, ?_⟩
    obtain ⟨e3, st3⟩ := e2.put hi2 h1 (AtAll.set (a1.ex st2.ex) j h5')
    exact q σ _ F2 fp2 e3 ((st1.trans st2).trans st3)
/-- return xs, xs owned -/
theorem run_retV {i : Nat} {r : Rs} (hi : s.s[i]? = some (.res r)) (hp : ∀ {F H : Hp} {P : Addr → Prop} {sv : Option (Option V)}, r.ok F H P sv → ∃ v, sv = some (some v)) : Run K E (tRet (tVar i)) s (.ro r (s.set i .unk)) := fun σ H F fp e Ed q => by
  have h := e.sl i _ hi
  obtain ⟨v, hv⟩ := hp h
  refine ⟨v, hv, q σ v H F (fpSet fp (.inl i) noP) (fp (.inl i)) ?_ Step.drop (by rw [← hv]; exact h) ⟨fun b hb => e.nf _ b hb, fun b j hb hj => ?_, fun b hb => e.th _ b hb, fun b hb => .inl ⟨_, hb⟩⟩⟩
  · have hil : i < s.s.length := (List.getElem?_eq_some_iff.mp hi).1
    refine ⟨e.ex, by simp [S.set, e.len], fun j y hj => ?_, e.tb, fun j k b hjk h1 h2 => ?_, fun j b h1 => ?_, fun j b h1 => ?_, e.nt⟩
    · by_cases z : j = i
      · subst z
        have e1 : (s.s.set j .unk)[j]? = some .unk := List.getElem?_set_self hil
        rw [show (s.set j .unk).s = s.s.set j .unk from rfl, e1] at hj
        cases hj; trivial
      · have e1 : (s.s.set i .unk)[j]? = s.s[j]? := List.getElem?_set_ne (Ne.symm z)
        rw [show (s.set i .unk).s = s.s.set i .unk from rfl, e1] at hj
        rw [fpSet_ne (by intro q; cases q; exact z rfl)]
        exact e.sl j y hj
    · by_cases z : j = .inl i
      · subst z; rw [fpSet_same] at h1; exact h1
      · rw [fpSet_ne z] at h1
        by_cases y : k = .inl i
        · subst y; rw [fpSet_same] at h2; exact h2
        · rw [fpSet_ne y] at h2; exact e.dj j k b hjk h1 h2
    · by_cases z : j = .inl i
      · subst z; rw [fpSet_same] at h1; exact h1.elim
      · rw [fpSet_ne z] at h1; exact e.nf j b h1
    · by_cases z : j = .inl i
      · subst z; rw [fpSet_same] at h1; exact h1.elim
      · rw [fpSet_ne z] at h1; exact e.th j b h1
  · by_cases z : j = .inl i
    · subst z; rw [fpSet_same] at hj; exact hj
    · rw [fpSet_ne z] at hj; exact e.dj j (.inl i) b z hj hb
theorem lst_has {ov : Option V} {ds : List D} {P : Addr → Prop} {sv : Option (Option V)} (h : (lstR K ov ds).ok F H P sv) : ∃ v, sv = some (some v) := by
  obtain ⟨a, vs, h1, _⟩ := h
  exact ⟨_, h1⟩
/-! ### isinstance -/
def tyD : D → String
  | .none => "NoneType"
  | .bool _ => "bool"
  | .int _ => "int"
  | .str _ => "str"
  | .list _ => "list"
  | .tuple _ => "tuple"
  | .dict _ => "dict"
def isiD (n : String) (d : D) : Bool := match n, d with
  | "int", .int _ => true
  | "int", .bool _ => true
  | "bool", .bool _ => true
  | "str", .str _ => true
  | "tuple", .tuple _ => true
  | "list", .list _ => true
  | "dict", .dict _ => true
  | _, _ => false
def kitAll (n : String) : Bool := kitB "NoneType" n == some (n == "NoneType") && (kitB "bool" n == some (n == "bool" || n == "int") && (kitB "int" n == some (n == "int") && (kitB "str" n == some (n == "str") && (kitB "list" n == some (n == "list") && (kitB "tuple" n == some (n == "tuple") && kitB "dict" n == some (n == "dict"))))))
theorem kit_int : kitAll "int" = true := by decide +kernel
theorem kit_bool : kitAll "bool" = true := by decide +kernel
theorem kit_str : kitAll "str" = true := by decide +kernel
theorem kit_tuple : kitAll "tuple" = true := by decide +kernel
theorem kit_dict : kitAll "dict" = true := by decide +kernel
def noScr : D → Bool
  | .dict ((.none, _) :: _) => false
  | _ => true
theorem at_ty {v : V} {d : D} (e : Ex F H) (h : At K F v d) (hn : noScr d = true) : TyX K H v (.type (tyD d)) := by
  cases h with
  | non => exact .base .non
  | bl b => exact .base (.bl b)
  | int i => exact .base (.int i)
  | str x => exact .base (.str x)
  | lst h t => exact .base (.lst (e _ _ h))
  | tup h t =>
    rcases e.sqT h with (h | ⟨o, h⟩) | ⟨o, its, n, h1, h2, _⟩
    · exact .base (.tup h)
    · exact .fTuple h
    · exact .kTuple h1 h2
  | dic h t => exact .base (.dK (e _ _ h))
  | scr h => cases hn
theorem ev_isi {n : String} (h : Ev K te s d s1) (hk : kitAll n = true) (hn : noScr d = true) (b : Bool) (hb : (match d with | .none => n == "NoneType" | .bool _ => (n == "bool" || n == "int") | .int _ => n == "int" | .str _ => n == "str" | .list _ => n == "list" | .tuple _ => n == "tuple" | .dict _ => n == "dict") = b) : Ev K (tCB (rIsi K) (tCons te (tCons (tC (.ty n)) tNil))) s (.bool b) s1 := fun σ H F fp E Q q =>
  h σ H F fp E _ fun v H1 F1 fp1 E1 st1 a1 => by
    refine ⟨v, .ty n, .type (tyD d), .type n, b, rfl, .ty n, at_ty E1.ex a1 hn, kit_ty ?_, q _ H1 F1 fp1 E1 st1 (.bl _)⟩
    simp only [kitAll, Bool.and_eq_true, beq_iff_eq] at hk
    obtain ⟨k1, k2, k3, k4, k5, k6, k7⟩ := hk
    subst hb
    cases d <;> assumption
end
end DL

namespace DL
open PySem PySem.Spec PyProof.Rows L2
section
variable {K : PySem.W.Frag} {E : XK} {s s1 s2 s' : S} {te : TE} {d : D} {σ : L2.St} {H F H1 : Hp} {fp : Fp} {C : Addr} {fl ret : Str} {t : XK → TE}
/-! ### lambdas: their tables turn, all else stays -/
theorem EnvW.lam (e : EnvW K σ s H F fp) (eN : LamX.ExtN H H1) (T1 : LamX.Tabs s.g H1) : EnvW K σ s H1 F fp ∧ Step H F fp H1 F fp := by
  have xk : ExtKeep H H1 := fun b φ h => eN b _ h (by intro ps z; cases z)
  have lv : ∀ b, Live H b → H1 b = H b := fun b ⟨o, q, n⟩ => by rw [q, eN b o q n]
  exact ⟨⟨fun a u q => eN a u (e.ex a u q) (e.nt a u q), e.len, fun i x h => (e.sl i x h).mono (Ex.refl F) (fun b hb => lv b (e.th _ b hb)) xk, T1, e.dj, e.nf, fun i b h => by
      obtain ⟨o, q, n⟩ := e.th i b h; exact ⟨o, eN b o q n, n⟩, e.nt⟩,
    ⟨Ex.refl F, fun _ h _ _ => h, fun b o h n _ => eN b o h n, fun i b h => .inl ⟨i, h⟩, xk⟩⟩
theorem ev_lamX (h : ∀ E, EvR K E (t E) s C fl d s') : Ev K (LamX.tLam s.g (BX.TRef K C fl ret) t) s d s' := fun σ H F fp e Q q =>
  ⟨e.tb, fun H1 eN T1 => by
    obtain ⟨e1, st1⟩ := e.lam eN T1
    exact h _ σ H1 F fp e1 _ fun dd v H' F' fp' e' st' a b => ⟨rfl, dd, [(fl, v)], v, rfl, a, by simp [List.lookup], q v H' F' fp' e' (st1.trans st') b⟩⟩
theorem ev_lamR (h : ∀ E, Ev K (t E) s d s') : Ev K (LamX.tLam s.g (BX.TRef K C fl ret) t) s (.str ret) s' := fun σ H F fp e Q q =>
  ⟨e.tb, fun H1 eN T1 => by
    obtain ⟨e1, st1⟩ := e.lam eN T1
    exact h _ σ H1 F fp e1 _ fun v H' F' fp' e' st' a => q _ H' F' fp' e' (st1.trans st') (.str ret)⟩
end
end DL

namespace DL
open PySem PySem.Spec PyProof.Rows L2
/-! ### calls with keywords: p puts the values in the parameters' order -/
def arr {α : Type} (x : α) (p : List Nat) (l : List α) : List α := p.map fun i => l.getD i x
structure KwB (K : PySem.W.Frag) (fd : FuncData) (ps ks : List Str) (n : Nat) (p : List Nat) : Prop where
  to : ∀ (s : Shared) (us ws : List Value), us.length = n → ws.length = ks.length → BindsTo s fd ⟨us, ks.zip ws⟩ (ps.zip (arr .none p (us ++ ws)))
  lt : ∀ i ∈ p, i < n + ks.length
  len : p.length = ps.length
def tCallM (sp : Sp) (n m : Nat) (p : List Nat) (E : XK) (t tk : TA) : TE := fun σ H Q => t σ H fun vs H1 => tk σ H1 fun zs H2 => vs.length = n ∧ zs.length = m ∧ sp (arr .non p (vs ++ zs)) H2 Q E
theorem vals_arr {vs : List V} {us : List Value} (r : Vals vs us) : ∀ {p : List Nat}, (∀ i ∈ p, i < vs.length) → Vals (arr .non p vs) (arr .none p us)
  | [], _ => .nil
  | i :: p, h => by
    have hi : i < vs.length := h i (List.mem_cons_self)
    have hi2 : i < us.length := by rw [← r.length]; exact hi
    refine .cons ?_ (vals_arr r fun j hj => h j (List.mem_cons_of_mem _ hj))
    obtain ⟨u, h1, h2⟩ := r.get (i := i) (x := vs[i]) (by simp [hi])
    have e1 : vs.getD i .non = vs[i] := by simp [List.getD, hi]
    have e2 : us.getD i .none = u := by simp [List.getD, h1]
    show L2.RelV (vs.getD i .non) (us.getD i .none)
    rw [e1, e2]; exact h2
theorem atAll_arr {K : PySem.W.Frag} {F : Hp} {vs : List V} {ds : List D} (r : AtAll K F vs ds) : ∀ {p : List Nat}, (∀ i ∈ p, i < vs.length) → AtAll K F (arr .non p vs) (arr .none p ds)
  | [], _ => .nil
  | i :: p, h => by
    have hi : i < vs.length := h i (List.mem_cons_self)
    refine .cons ?_ (atAll_arr r fun j hj => h j (List.mem_cons_of_mem _ hj))
    obtain ⟨d, h1, h2⟩ := r.getV (i := i) (v := vs[i]) (by simp [hi])
    have e1 : vs.getD i .non = vs[i] := by simp [List.getD, hi]
    have e2 : ds.getD i .none = d := by simp [List.getD, h1]
    show At K F (vs.getD i .non) (ds.getD i .none)
    rw [e1, e2]; exact h2
section
variable {X : Cx} {CX : CXT} {k n : Nat} {f : Addr} {fd : FuncData} {ps ks : List Str} {sp : Sp} {E : XK} {x : Str} {p pos : Pos} {e : Expr} {es : List Expr} {kws : List Keyword} {t tk : TA} {pm : List Nat}
theorem run_fnM {pins : List (Addr × Obj)} {σ : L2.St} {H : Hp} {s : Shared} {Q : VK} {us ws : List Value} {vs zs : List V} (F : FnOk X.prog X.w X.K X.mg X.base CX k f fd ps sp) (hr : Room k X.A) (hb : KwB X.K fd ps ks n pm) (hx : Passes CX X E)
    (I : Inv X pins σ H s) (r : Vals vs us) (rz : Vals zs ws) (l1 : vs.length = n) (l2 : zs.length = ks.length) (h : sp (arr .non pm (vs ++ zs)) H Q E) : wpAny (model X.prog X.w) X.A (call (.ref f) us (ks.zip ws)) (EP X pins σ Q) X.xe s := by
  have r2 := vals_arr (p := pm) (r.append rz) (fun i hi => by rw [List.length_append, l1, l2]; exact hb.lt i hi)
  refine wpAny_call (codeAny_mono (F.run X.A X.stack s H ⟨us, ks.zip ws⟩ _ _ Q E hr I.env0 (hb.to s us ws (r.length.symm.trans l1) (rz.length.symm.trans l2)) r2 h) fun r s' hq => ?_)
  cases r with
  | error e => exact hx pins σ H s e s' I hq
  | ok fl =>
    cases fl with
    | ret u => exact I.after hq
    | next => exact False.elim hq
    | brk => exact False.elim hq
    | cont => exact False.elim hq
theorem pe_callM (F : FnOk X.prog X.w X.K X.mg X.base CX k f fd ps sp) (hr : Room k X.A) (hg : Gl X x) (hm : X.mg x = some (.ref f)) (hk : PySem.W.keepIn X.K (.ref f) = true) (hb : KwB X.K fd ps ks n pm) (hx : Passes CX X E)
    (ha : PA X (e :: es) t) (hkw : PK X kws tk) (hall : (backToKw pos (keywordEach kws X.env)).all (·.1.isSome) = true := by rfl) (hks : (backToKw pos (keywordEach kws X.env)).filterMap (·.1) = ks := by rfl)
    (hdb : (x == ("__debug__" : Str)) = false := by decide) (he : starEach (e :: es) X.env = (false, eval e X.env) :: starEach es X.env := by rfl)
    (hpl : ((backTo pos (starEach (e :: es) X.env)).any (·.1) || (backToKw pos (keywordEach kws X.env)).any (·.1.isNone)) = false := by rfl)
    {m : Nat} (hl : ks.length = m := by rfl) : PE X (.Call (.Name x p) (e :: es) kws pos) (tCallM sp n m pm E t tk) := by
  subst hl
  refine ⟨fun pins s σ H Q I h => ?_⟩
  refine wpAny_Call_Name_kw (ld_glob I hg hm ?_ hdb)
  refine PySem.W.callWith_KW (h₀ := X.base) I.ok.mod.kin hk hall (thn (ha.run pos pins s σ H _ I h) fun us s1 ⟨vs, H1, I1, r, q⟩ => ?_) hpl he
  refine thn (hkw.run pos pins s1 σ H1 _ I1 q) fun ws s2 ⟨zs, H2, I2, rz, l1, l2, q2⟩ => ⟨I2.kIn, ?_⟩
  rw [hks]
  exact run_fnM F hr hb hx I2 r rz l1 l2 q2
theorem pe_callM0 (F : FnOk X.prog X.w X.K X.mg X.base CX k f fd ps sp) (hr : Room k X.A) (hg : Gl X x) (hm : X.mg x = some (.ref f)) (hk : PySem.W.keepIn X.K (.ref f) = true) (hb : KwB X.K fd ps ks 0 pm) (hx : Passes CX X E)
    (hkw : PK X kws tk) (hall : (backToKw pos (keywordEach kws X.env)).all (·.1.isSome) = true := by rfl) (hks : (backToKw pos (keywordEach kws X.env)).filterMap (·.1) = ks := by rfl)
    (hdb : (x == ("__debug__" : Str)) = false := by decide)
    (hpl : ((backTo pos (starEach [] X.env)).any (·.1) || (backToKw pos (keywordEach kws X.env)).any (·.1.isNone)) = false := by rfl)
    {m : Nat} (hl : ks.length = m := by rfl) : PE X (.Call (.Name x p) [] kws pos) (tCallM sp 0 m pm E tNil tk) := by
  subst hl
  refine ⟨fun pins s σ H Q I h => ?_⟩
  refine wpAny_Call_Name_kw (ld_glob I hg hm ?_ hdb)
  refine PySem.W.callWith_KW0 (h₀ := X.base) I.ok.mod.kin hk hall ?_ hpl
  refine thn (hkw.run pos pins s σ H _ I h) fun ws s2 ⟨zs, H2, I2, rz, l1, l2, q2⟩ => ⟨I2.kIn, ?_⟩
  rw [hks]
  exact run_fnM F hr hb hx I2 .nil rz l1 l2 q2
end
section
variable {K : PySem.W.Frag} {E : XK} {s s1 s2 s' : S} {te : TE} {d : D}
theorem ev_callM {R : FR} {ta tk : TA} {ds es : List D} {n m : Nat} {p : List Nat} (ha : EvA K ta s ds s1) (hk : EvA K tk s1 es s2) (hn : ds.length = n) (hm : es.length = m) (hp : ∀ i ∈ p, i < n + m) (hR : R ⟨(arr .none p (ds ++ es)).map .dat, s2.g⟩ (.rt d ⟨(arr .none p (ds ++ es)).map .dat, s2.g⟩)) : Ev K (tCallM (spF K R) n m p E ta tk) s d s2 := fun σ H F fp e Q q =>
  ha σ H F fp e _ fun vs H1 F1 fp1 e1 st1 a1 => hk σ H1 F1 fp1 e1 _ fun zs H2 F2 fp2 e2 st2 a2 => by
    have l1 := a1.length
    have l2 := a2.length
    refine ⟨by omega, by omega, _, F2, noF, _, env_dat e2 (atAll_arr ((a1.ex st2.ex).append a2) fun i hi => by have := hp i hi; rw [List.length_append]; omega), hR, fun v H' F' fp' e' st a => ?_⟩
    obtain ⟨e3, st3⟩ := frame0 e2 e' st rfl
    exact q v H' F' fp2 e3 ((st1.trans st2).trans st3) a
/-- *xs in a display -/
theorem ea_starT {tr : TA} {xs ds : List D} (h : Ev K te s (.tuple xs) s1) (hr : EvA K tr s1 ds s2) : EvA K (StX.tStar K te tr) s (xs ++ ds) s2 := fun σ H F fp E Q q =>
  h σ H F fp E _ fun v H1 F1 fp1 E1 st1 a1 => by
    cases a1 with
    | tup h1 h2 => exact ⟨_, _, rfl, .inl (E1.ex.sqT h1), hr σ H1 F1 fp1 E1 _ fun vs H2 F2 fp2 E2 st2 a2 => q _ H2 F2 fp2 E2 (st1.trans st2) ((h2.ex st2.ex).append a2)⟩
end
/-! ### what passes a def, a lambda, a block -/
theorem pass_e {X : Cx} {E : XK} (tk : Takes X (fun cls d _ H => E cls d H)) : Passes (L2.CX X.prog X.w) X E := passes_call tk fun _ _ _ _ h => h
/-- a def whose code object is known -/
structure FunC (K : PySem.W.Frag) (x qual : Str) (st : Stmt) (f : Addr) (fd : FuncData) (c : Addr) : Prop where
  ex : ∃ (oc : Value) (od : Option Addr) (kV doc pm : Value) (an : Option Addr) (ct : Value) (osl : Array (Option Value)),
    fd = PySem.W.fnOf x qual (defArgs st) (defBody st) (defScope st) .none kV doc pm an (.ref c) ct ∧ K.lookup f = some ⟨oc, od, .func fd, osl⟩ ∧ PySem.W.codeIn K (.ref c) qual = true
  kp : PySem.W.keepIn K (.ref f) = true
theorem FunC.toFun {K : PySem.W.Frag} {x qual : Str} {st : Stmt} {f : Addr} {fd : FuncData} {c : Addr} (F : FunC K x qual st f fd c) : Fun K x qual st f fd := by
  obtain ⟨oc, od, kV, doc, pm, an, ct, osl, h1, h2, h3⟩ := F.ex
  exact ⟨⟨oc, od, kV, doc, pm, an, .ref c, ct, osl, h1, h2, h3⟩, F.kp⟩
section
variable {P : Program} {w : World} {K : PySem.W.Frag} {mg : Str → Option Value} {base : Heap}
theorem FunC.okX {x qual : Str} {st : Stmt} {f : Addr} {fd : FuncData} {c : Addr} {N ps : List Str} {k : Nat} {sp : Sp} (F : FunC K x qual st f fd c) (S : FnScope N ps (defScope st)) (len : ∀ vs H Q E, sp vs H Q E → vs.length = ps.length)
    (hbody : ∀ (A : Around) (outer : List Env) (s : Shared) (H : Hp) (vs : List V) (Q : VK) (E : XK), Room k (A.deeper (envOfC qual (defScope st) s.heap.objs.size f (.ref c))) → sp vs H Q E →
      ∃ t, PSs (cxOf (L2.CX P w) P w K mg base N qual (defScope st) f (.ref c) A outer s H E) (defBody st) t ∧ t { nx := fun _ H' => Q .non H', rt := Q } (L2.start N vs) H) : FnOk P w K mg base (L2.CX P w) (k + 1) f fd ps sp := by
  obtain ⟨oc, od, kV, doc, pm, an, ct, osl, rfl, lk, hcd⟩ := F.ex
  exact fn_of lk hcd S len fun A outer s H vs Q E hr hsp => hbody A outer s H vs Q E hr hsp
end
end DL

namespace DL
open PySem PySem.Spec PyProof.Rows L2
theorem hu65 {X : Cx} {k : Nat} (hr : Room k X.A) : X.A.units + 65 < cLine := by have := hr.un; omega
/-! ### argument lists with owned things -/
structure OwnL (H : Hp) (fp : Fp) (H' F' : Hp) (fp' : Fp) (P : Nat → Addr → Prop) : Prop where
  own : ∀ i, Own H fp H' F' fp' (P i)
  dj : ∀ i j b, i ≠ j → P i b → ¬ P j b
def EvX (K : PySem.W.Frag) (ta : TA) (s : S) (xs : List Sl) (s' : S) : Prop := ∀ σ H F fp, EnvW K σ s H F fp → ∀ Q : List V → Hp → Prop,
  (∀ vs H' F' fp' P, EnvW K σ s' H' F' fp' → Step H F fp H' F' fp' → vs.length = xs.length → (∀ (i : Nat) (x : Sl), xs[i]? = some x → SlOk K F' H' (P i) (vs[i]?.map some) x) → OwnL H fp H' F' fp' P → Q vs H') → ta σ H Q
theorem Own.none {H F H' : Hp} {fp fp' : Fp} : Own H fp H' F fp' noP := ⟨fun _ h => h.elim, fun _ _ h => h.elim, fun _ h => h.elim, fun _ h => h.elim⟩
section
variable {K : PySem.W.Frag} {E : XK} {s s1 s2 s' : S} {te : TE} {d : D} {o : Out} {t : TS} {σ : L2.St} {H F : Hp} {fp : Fp}
theorem ex_nil : EvX K tNil s [] s := fun σ H F fp e Q q => q [] H F fp (fun _ => noP) e (Step.refl _ _ _) rfl (fun i x h => by simp at h) ⟨fun _ => Own.none, fun _ _ _ _ h => h.elim⟩
theorem ex_dat {tr : TA} {xs : List Sl} (h : Ev K te s d s1) (hr : EvX K tr s1 xs s2) : EvX K (tCons te tr) s (.dat d :: xs) s2 := fun σ H F fp e Q q =>
  h σ H F fp e _ fun v H1 F1 fp1 e1 st1 a1 => hr σ H1 F1 fp1 e1 _ fun vs H2 F2 fp2 P e2 st2 l2 hx ol => by
    refine q (v :: vs) H2 F2 fp2 (fun i => match i with | 0 => noP | i + 1 => P i) e2 (st1.trans st2) (by simp [l2]) (fun i x hi => ?_) ⟨fun i => ?_, fun i j b hij hi hj => ?_⟩
    · cases i with
      | zero => simp at hi; subst hi; exact ⟨v, rfl, a1.ex st2.ex⟩
      | succ i => exact hx i x (by simpa using hi)
    · cases i with
      | zero => exact Own.none
      | succ i => exact (ol.own i).step st1
    · cases i with
      | zero => exact hi.elim
      | succ i => cases j with
        | zero => exact hj.elim
        | succ j => exact ol.dj i j b (fun z => hij (by rw [z])) hi hj
theorem ex_res {tr : TA} {xs : List Sl} {r : Rs} (h : EvO K te s r s1) (hr : EvX K tr s1 xs s2) : EvX K (tCons te tr) s (.res r :: xs) s2 := fun σ H F fp e Q q =>
  h σ H F fp e _ fun v H1 F1 fp1 P1 e1 st1 a1 o1 => hr σ H1 F1 fp1 e1 _ fun vs H2 F2 fp2 P e2 st2 l2 hx ol => by
    have nfp : ∀ b, P1 b → ∀ i, ¬ fp2 i b := fun b hb i hi => by
      rcases st2.fpn i b hi with ⟨j, hj⟩ | hn
      · exact o1.dj b j hb hj
      · exact hn (o1.th b hb)
    have keep : ∀ b, P1 b → H2 b = H1 b := fun b hb => by
      obtain ⟨u, hu, hn⟩ := o1.th b hb
      rw [st2.keep b u hu hn (o1.dj b · hb), hu]
    have oP : Own H fp H2 F2 fp2 P1 := ⟨fun b hb => st2.new b (o1.nf b hb) (o1.th b hb) (o1.dj b · hb), fun b i hb => nfp b hb i, fun b hb => st2.live (o1.th b hb) (o1.dj b · hb), o1.new⟩
    have dj : ∀ i b, P1 b → ¬ P i b := fun i b h1 h2 => by
      rcases (ol.own i).new b h2 with ⟨j, hj⟩ | hn
      · exact o1.dj b j h1 hj
      · exact hn (o1.th b h1)
    refine q (v :: vs) H2 F2 fp2 (fun i => match i with | 0 => P1 | i + 1 => P i) e2 (st1.trans st2) (by simp [l2]) (fun i x hi => ?_) ⟨fun i => ?_, fun i j b hij hi hj => ?_⟩
    · cases i with
      | zero => simp at hi; subst hi; exact r.mono a1 st2.ex keep st2.ext
      | succ i => exact hx i x (by simpa using hi)
    · cases i with
      | zero => exact oP
      | succ i => exact (ol.own i).step st1
    · cases i with
      | zero => cases j with
        | zero => exact hij rfl
        | succ j => exact dj j b hi hj
      | succ i => cases j with
        | zero => exact dj i b hj hi
        | succ j => exact ol.dj i j b (fun z => hij (by rw [z])) hi hj
/-- a slot gets what is at hand: data or an owned thing -/
theorem EnvW.setX {H0 : Hp} {fp0 : Fp} {i : Nat} {v : V} {x : Sl} {P : Addr → Prop} (E : EnvW K σ s H F fp) (h : SlOk K F H P (some (some v)) x) (o : Own H0 fp0 H F fp P) : EnvW K (σ.set i (some v)) (s.set i x) H F (fpSet fp (.inl i) P) where
  ex := E.ex
  len := by simp [S.set, E.len]
  sl := fun j y hj => by
    by_cases z : j = i
    · subst z
      have hl : j < s.s.length := by
        have := (List.getElem?_eq_some_iff.mp hj).1
        simpa [S.set] using this
      have e1 : (s.s.set j x)[j]? = some x := List.getElem?_set_self hl
      rw [show (s.set j x).s = s.s.set j x from rfl, e1] at hj
      cases hj
      rw [fpSet_same, List.getElem?_set_self (by rw [E.len]; exact hl)]
      exact h
    · have e1 : (s.s.set i x)[j]? = s.s[j]? := List.getElem?_set_ne (Ne.symm z)
      rw [show (s.set i x).s = s.s.set i x from rfl, e1] at hj
      rw [fpSet_ne (by intro q; cases q; exact z rfl), List.getElem?_set_ne (Ne.symm z)]
      exact E.sl j y hj
  tb := E.tb
  dj := fun j k b hjk h1 h2 => by
    by_cases z : j = .inl i
    · subst z; rw [fpSet_same] at h1; rw [fpSet_ne (Ne.symm hjk)] at h2; exact o.dj b k h1 h2
    · rw [fpSet_ne z] at h1
      by_cases y : k = .inl i
      · subst y; rw [fpSet_same] at h2; exact o.dj b j h2 h1
      · rw [fpSet_ne y] at h2; exact E.dj j k b hjk h1 h2
  nf := fun j b h1 => by
    by_cases z : j = .inl i
    · subst z; rw [fpSet_same] at h1; exact o.nf b h1
    · rw [fpSet_ne z] at h1; exact E.nf j b h1
  th := fun j b h1 => by
    by_cases z : j = .inl i
    · subst z; rw [fpSet_same] at h1; exact o.th b h1
    · rw [fpSet_ne z] at h1; exact E.th j b h1
  nt := E.nt
theorem Own.fps {H' F' H0 : Hp} {fp0 fp' : Fp} {P P' : Addr → Prop} {i : Ix} (o : Own H0 fp0 H' F' fp' P) (d : ∀ b, P b → ¬ P' b) : Own H0 fp0 H' F' (fpSet fp' i P') P := ⟨o.nf, fun b j hb hj => by
  by_cases z : j = i
  · subst z; rw [fpSet_same] at hj; exact d b hb hj
  · rw [fpSet_ne z] at hj; exact o.dj b j hb hj, o.th, o.new⟩
theorem run_parX {i j : Nat} {x1 x2 : Sl} {ta : TA} (h : EvX K ta s [x1, x2] s1) : Run K E (tPar i j ta) s (.nx ((s1.set i x1).set j x2)) := fun σ H F fp e Ed q =>
  h σ H F fp e _ fun vs H' F' fp' P e' st l hx ol => by
    match vs, l with
    | [v1, v2], _ =>
      have z1 := hx 0 x1 rfl
      have z2 := hx 1 x2 rfl
      refine ⟨_, _, rfl, q _ H' F' _ ((e'.setX (i := i) z1 (ol.own 0)).setX (i := j) z2 ((ol.own 1).fps (ol.dj 1 0 · (by decide)))) ((st.own (ol.own 0)).own ((ol.own 1).fps (ol.dj 1 0 · (by decide))))⟩
theorem run_parX3 {i j k : Nat} {x1 x2 x3 : Sl} {ta : TA} (h : EvX K ta s [x1, x2, x3] s1) : Run K E (tPar3 i j k ta) s (.nx (((s1.set i x1).set j x2).set k x3)) := fun σ H F fp e Ed q =>
  h σ H F fp e _ fun vs H' F' fp' P e' st l hx ol => by
    match vs, l with
    | [v1, v2, v3], _ =>
      have z1 := hx 0 x1 rfl
      have z2 := hx 1 x2 rfl
      have z3 := hx 2 x3 rfl
      have o1 := ol.own 0
      have o2 := (ol.own 1).fps (i := .inl i) (ol.dj 1 0 · (by decide))
      have o3 := ((ol.own 2).fps (i := .inl i) (ol.dj 2 0 · (by decide))).fps (i := .inl j) (ol.dj 2 1 · (by decide))
      exact ⟨_, _, _, rfl, q _ H' F' _ (((e'.setX (i := i) z1 o1).setX (i := j) z2 o2).setX (i := k) z3 o3) (((st.own o1).own o2).own o3)⟩
/-! ### an owned list is given up: from now on it is data -/
theorem EnvW.freeze {i : Nat} {ov : Option V} {ds : List D} (e : EnvW K σ s H F fp) (hi : s.s[i]? = some (.res (lstR K ov ds))) : ∃ F', EnvW K σ (s.set i (.dat (.list ds))) H F' (fpSet fp (.inl i) noP) ∧ Step H F fp H F' (fpSet fp (.inl i) noP) := by
  obtain ⟨a, vs, h1, h2, h3, h4⟩ := e.own hi
  have hfa : fp (.inl i) a := (h2 a).mpr rfl
  have hFa : F a = none := e.nf _ a hfa
  have eF : Ex F (upd F a (.lst vs)) := Ex.new hFa
  have hil : i < s.s.length := (List.getElem?_eq_some_iff.mp hi).1
  have nfa : ∀ j b, j ≠ .inl i → fp j b → b ≠ a := fun j b hj hb z => e.dj j (.inl i) b hj hb (z ▸ hfa)
  refine ⟨upd F a (.lst vs), ⟨fun b u q => ?_, by simp [S.set, e.len], fun j y hj => ?_, e.tb, fun j k b hjk h1 h2 => ?_, fun j b hb => ?_, fun j b hb => ?_, fun b o q => ?_⟩, ⟨eF, fun b h1 h2 h3 => ?_, fun b o h1 _ _ => h1, fun j b hb => ?_, fun _ _ h => h⟩⟩
  · by_cases z : b = a
    · subst z; rw [upd_same] at q; cases q; exact h3
    · rw [upd_ne z] at q; exact e.ex b u q
  · by_cases z : j = i
    · subst z
      have e1 : (s.s.set j (.dat (.list ds)))[j]? = some (.dat (.list ds)) := List.getElem?_set_self hil
      rw [show (s.set j (.dat (.list ds))).s = s.s.set j (.dat (.list ds)) from rfl, e1] at hj
      cases hj
      exact ⟨.ref a, h1, .lst upd_same (h4.ex eF)⟩
    · have e1 : (s.s.set i (.dat (.list ds)))[j]? = s.s[j]? := List.getElem?_set_ne (Ne.symm z)
      rw [show (s.set i (.dat (.list ds))).s = s.s.set i (.dat (.list ds)) from rfl, e1] at hj
      rw [fpSet_ne (by intro q; cases q; exact z rfl)]
      exact (e.sl j y hj).mono eF (fun _ _ => rfl) (fun _ _ h => h)
  · by_cases z : j = .inl i
    · subst z; rw [fpSet_same] at h1; exact h1
    · rw [fpSet_ne z] at h1
      by_cases y : k = .inl i
      · subst y; rw [fpSet_same] at h2; exact h2
      · rw [fpSet_ne y] at h2; exact e.dj j k b hjk h1 h2
  · by_cases z : j = .inl i
    · subst z; rw [fpSet_same] at hb; exact hb.elim
    · rw [fpSet_ne z] at hb; rw [upd_ne (nfa j b z hb)]; exact e.nf j b hb
  · by_cases z : j = .inl i
    · subst z; rw [fpSet_same] at hb; exact hb.elim
    · rw [fpSet_ne z] at hb; exact e.th j b hb
  · by_cases z : b = a
    · subst z; rw [upd_same] at q; cases q; intro ps w; cases w
    · rw [upd_ne z] at q; exact e.nt b o q
  · have : b ≠ a := fun z => h3 (.inl i) (z ▸ hfa)
    rw [upd_ne this]; exact h1
  · by_cases z : j = .inl i
    · subst z; rw [fpSet_same] at hb; exact hb.elim
    · rw [fpSet_ne z] at hb; exact .inl ⟨j, hb⟩
theorem run_frz {i : Nat} {ov : Option V} {ds : List D} (hi : s.s[i]? = some (.res (lstR K ov ds))) (h : Run K E t (s.set i (.dat (.list ds))) o) : Run K E t s o := fun σ H F fp e Ed q => by
  obtain ⟨F', e', st⟩ := e.freeze hi
  exact h σ H F' _ e' Ed (q.step st)
theorem ev_frz {i : Nat} {ov : Option V} {ds : List D} (hi : s.s[i]? = some (.res (lstR K ov ds))) (h : Ev K te (s.set i (.dat (.list ds))) d s') : Ev K te s d s' := fun σ H F fp e Q q => by
  obtain ⟨F', e', st⟩ := e.freeze hi
  exact h σ H F' _ e' Q fun v H2 F2 fp2 e2 st2 a => q v H2 F2 fp2 e2 (st.trans st2) a
/-! ### x += n -/
theorem run_aug {i : Nat} {f : Int → Int → Int} {a b : Int} (hi : s.s[i]? = some (.dat (.int a))) (h : Ev K te s (.int b) s1) : Run K E (tAug i te (ipI f)) s (.nx (s1.set i (.dat (.int (f a b))))) := fun σ H F fp e Ed q => by
  obtain ⟨v, h1, h2⟩ := e.sl i _ hi
  cases h2
  refine ⟨_, h1, h σ H F fp e _ fun w H1 F1 fp1 e1 st1 a1 => ?_⟩
  cases a1
  exact ⟨a, b, rfl, rfl, q _ H1 F1 _ (e1.set (i := i) (x := .dat (.int (f a b))) ⟨_, rfl, .int _⟩) (st1.trans Step.drop)⟩
/-! ### operators in short -/
variable {ta tb tc : TE} {x y : D} {a b c : Int}
theorem ev_addI (ha : Ev K ta s (.int a) s1) (hb : Ev K tb s1 (.int b) s2) : Ev K (tOp (rD2 K addOk addD) ta tb) s (.int (a + b)) s2 := ev_op ha hb trivial
theorem ev_subI (ha : Ev K ta s (.int a) s1) (hb : Ev K tb s1 (.int b) s2) : Ev K (tOp (rD2 K subOk subD) ta tb) s (.int (a - b)) s2 := ev_op ha hb trivial
theorem ev_mulI (ha : Ev K ta s (.int a) s1) (hb : Ev K tb s1 (.int b) s2) (h : CMul a b) : Ev K (tOp (rD2 K mulOk mulD) ta tb) s (.int (a * b)) s2 := ev_op ha hb h
theorem ev_divI (ha : Ev K ta s (.int a) s1) (hb : Ev K tb s1 (.int b) s2) (h : 0 < b ∧ b < 1073741824) : Ev K (tOp (rD2 K divOk divD) ta tb) s (.int (a / b)) s2 := ev_op ha hb h
theorem ev_modI (ha : Ev K ta s (.int a) s1) (hb : Ev K tb s1 (.int b) s2) (h : 0 < b) : Ev K (tOp (rD2 K modOk modD) ta tb) s (.int (a % b)) s2 := ev_op ha hb h
theorem ev_powI (ha : Ev K ta s (.int a) s1) (hb : Ev K tb s1 (.int b) s2) (h : CPow a b) : Ev K (tOp (rD2 K powOk powD) ta tb) s (.int (a ^ b.toNat)) s2 := ev_op ha hb h
theorem ev_ltI (ha : Ev K ta s (.int a) s1) (hb : Ev K tb s1 (.int b) s2) : Ev K (tOp (rD2 K ltXOk ltXD) ta tb) s (.bool (decide (a < b))) s2 := ev_op ha hb trivial
theorem ev_leI (ha : Ev K ta s (.int a) s1) (hb : Ev K tb s1 (.int b) s2) : Ev K (tOp (rD2 K ordOk leD) ta tb) s (.bool (decide (a ≤ b))) s2 := ev_op ha hb trivial
theorem ev_gtI (ha : Ev K ta s (.int a) s1) (hb : Ev K tb s1 (.int b) s2) : Ev K (tOp (rD2 K ordOk gtD) ta tb) s (.bool (decide (b < a))) s2 := ev_op ha hb trivial
theorem ev_geI (ha : Ev K ta s (.int a) s1) (hb : Ev K tb s1 (.int b) s2) : Ev K (tOp (rD2 K ordOk geD) ta tb) s (.bool (decide (b ≤ a))) s2 := ev_op ha hb trivial
theorem beq_dec {a b : Int} : (a == b) = decide (a = b) := by
  by_cases h : a = b <;> simp [h]
theorem ev_eqI (ha : Ev K ta s (.int a) s1) (hb : Ev K tb s1 (.int b) s2) : Ev K (tOp (rD2 K eqOk eqD) ta tb) s (.bool (decide (a = b))) s2 := by
  have := ev_op (ok := eqOk) (f := eqD) ha hb ⟨rfl, rfl⟩
  refine this.to ?_
  show PyData.bool (PyData.eqv (.int a) (.int b)) = _
  simp only [PyData.eqv, beq_dec]
theorem ev_neI (ha : Ev K ta s (.int a) s1) (hb : Ev K tb s1 (.int b) s2) : Ev K (tOp (rD2 K eqOk neD) ta tb) s (.bool (!decide (a = b))) s2 := by
  have := ev_op (ok := eqOk) (f := neD) ha hb ⟨rfl, rfl⟩
  refine this.to ?_
  show PyData.bool (!PyData.eqv (.int a) (.int b)) = _
  simp only [PyData.eqv, beq_dec]
theorem ev_isN (ha : Ev K ta s x s1) (hb : Ev K tb s1 .none s2) : Ev K (tOp (rD2 K isOk isD) ta tb) s (.bool (isNoneB x)) s2 := ev_op ha hb rfl
theorem ev_isnN (ha : Ev K ta s x s1) (hb : Ev K tb s1 .none s2) : Ev K (tOp (rD2 K isOk isnD) ta tb) s (.bool (!isNoneB x)) s2 := ev_op ha hb rfl
theorem ev_negI (ha : Ev K ta s (.int a) s1) : Ev K (tUn (rD1 K negOk negD) ta) s (.int (-a)) s1 := ev_un ha trivial
theorem ev_lenL {ds : List D} {t : TA} (ha : EvA K t s [.list ds] s1) : Ev K (tCB (rDn K lenOk lenD) t) s (.int ds.length) s1 := ev_cb ha trivial
theorem ev_lenT {ds : List D} {t : TA} (ha : EvA K t s [.tuple ds] s1) : Ev K (tCB (rDn K lenOk lenD) t) s (.int ds.length) s1 := ev_cb ha trivial
theorem ev_lenO {ds : List D} {i : Nat} {ov : Option V} (hi : s.s[i]? = some (.res (lstR K ov ds))) : Ev K (tCB (rDn K lenOk lenD) (tCons (tVar i) tNil)) s (.int ds.length) s := ev_cb1 hi trivial
theorem ev_eqT {x y : D} (ha : Ev K ta s x s1) (hb : Ev K tb s1 y s2) (ok : eqOk x y) : Ev K (tOp (rD2 K eqOk eqD) ta tb) s (.bool (PyData.eqv x y)) s2 := ev_op ha hb ok
theorem ev_neT {x y : D} (ha : Ev K ta s x s1) (hb : Ev K tb s1 y s2) (ok : eqOk x y) : Ev K (tOp (rD2 K eqOk neD) ta tb) s (.bool (!PyData.eqv x y)) s2 := ev_op ha hb ok
theorem ev_inT {x y : D} (ha : Ev K ta s x s1) (hb : Ev K tb s1 y s2) (ok : inOk x y) : Ev K (tOp (rD2 K inOk inD) ta tb) s (.bool (inB x y)) s2 := ev_op ha hb ok
theorem ev_ninT {x y : D} (ha : Ev K ta s x s1) (hb : Ev K tb s1 y s2) (ok : inOk x y) : Ev K (tOp (rD2 K inOk ninD) ta tb) s (.bool (!inB x y)) s2 := ev_op ha hb ok
/-- xs[i] -/
theorem ev_ixL {ds : List D} {i : Int} {d : D} (ha : Ev K ta s (.list ds) s1) (hb : Ev K tb s1 (.int i) s2) (h : atI ds i = some d) : Ev K (tOp (rD2 K ixOk ixD) ta tb) s d s2 := by
  refine (ev_op ha hb (by show (atI ds i).isSome = true; rw [h]; rfl)).to ?_
  show (atI ds i).getD .none = d
  rw [h]; rfl
theorem ev_ixT {ds : List D} {i : Int} {d : D} (ha : Ev K ta s (.tuple ds) s1) (hb : Ev K tb s1 (.int i) s2) (h : atI ds i = some d) : Ev K (tOp (rD2 K ixOk ixD) ta tb) s d s2 := by
  refine (ev_op ha hb (by show (atI ds i).isSome = true; rw [h]; rfl)).to ?_
  show (atI ds i).getD .none = d
  rw [h]; rfl
theorem ev_ixO {ds ds' : List D} {i : Int} {d : D} {j : Nat} {ov ov' : Option V} (hi : s.s[j]? = some (.res (lstR K ov ds))) (hb : Ev K tb s (.int i) s2) (hi2 : s2.s[j]? = some (.res (lstR K ov' ds'))) (h : atI ds' i = some d) : Ev K (tOp (rD2 K ixOk ixD) (tVar j) tb) s d s2 := by
  refine (ev_op1 hi hb hi2 (by show (atI ds' i).isSome = true; rw [h]; rfl)).to ?_
  show (atI ds' i).getD .none = d
  rw [h]; rfl
end
mutual
theorem eqv_refl : ∀ (d : D), flat0 d = true → PyData.eqv d d = true
  | .none, _ => by simp [PyData.eqv]
  | .bool b, _ => by simp [PyData.eqv]
  | .int i, _ => by simp [PyData.eqv]
  | .str x, _ => by simp [PyData.eqv]
  | .list xs, h => by unfold flat0 at h; unfold PyData.eqv; exact eqvs_refl xs h
  | .tuple xs, h => by unfold flat0 at h; unfold PyData.eqv; exact eqvs_refl xs h
  | .dict _, h => by unfold flat0 at h; cases h
theorem eqvs_refl : ∀ (ds : List D), flats0 ds = true → PyData.eqvAll ds ds = true
  | [], _ => by unfold PyData.eqvAll; rfl
  | x :: xs, h => by
    unfold flats0 at h
    rw [Bool.and_eq_true] at h
    unfold PyData.eqvAll
    rw [eqv_refl x h.1, eqvs_refl xs h.2]; rfl
end
/-! ### what may be compared -/
def Sh (n : Nat) (d : D) : Prop := d.canLay0 = true ∧ d.depth ≤ n
def Shs (n : Nat) (ds : List D) : Prop := PyData.canLayAll0 ds = true ∧ PyData.depthAll ds ≤ n
theorem sh_non {n : Nat} : Sh n .none := ⟨by unfold PyData.canLay0; rfl, by unfold PyData.depth; exact Nat.zero_le _⟩
theorem sh_bl {n : Nat} {b : Bool} : Sh n (.bool b) := ⟨by unfold PyData.canLay0; rfl, by unfold PyData.depth; exact Nat.zero_le _⟩
theorem sh_int {n : Nat} {b : Int} : Sh n (.int b) := ⟨by unfold PyData.canLay0; rfl, by unfold PyData.depth; exact Nat.zero_le _⟩
theorem sh_str {n : Nat} {x : Str} (h : PyData.strOk x = true) : Sh n (.str x) := ⟨by unfold PyData.canLay0; exact h, by unfold PyData.depth; exact Nat.zero_le _⟩
theorem sh_lst {n : Nat} {ds : List D} (h : Shs n ds) : Sh (n + 1) (.list ds) := ⟨by unfold PyData.canLay0; exact h.1, by unfold PyData.depth; exact Nat.succ_le_succ h.2⟩
theorem sh_tup {n : Nat} {ds : List D} (h : Shs n ds) : Sh (n + 1) (.tuple ds) := ⟨by unfold PyData.canLay0; exact h.1, by unfold PyData.depth; exact Nat.succ_le_succ h.2⟩
theorem shs_nil {n : Nat} : Shs n [] := ⟨by unfold PyData.canLayAll0; rfl, by unfold PyData.depthAll; exact Nat.zero_le _⟩
theorem shs_cons {n : Nat} {d : D} {ds : List D} (h : Sh n d) (t : Shs n ds) : Shs n (d :: ds) := ⟨by unfold PyData.canLayAll0; rw [h.1, t.1]; rfl, by unfold PyData.depthAll; exact Nat.max_le.mpr ⟨h.2, t.2⟩⟩
theorem shs_of {n : Nat} : ∀ {ds : List D}, (∀ d ∈ ds, Sh n d) → Shs n ds
  | [], _ => shs_nil
  | d :: ds, h => shs_cons (h d List.mem_cons_self) (shs_of fun x hx => h x (List.mem_cons_of_mem _ hx))
theorem Shs.app {n : Nat} : ∀ {ds es : List D}, Shs n ds → Shs n es → Shs n (ds ++ es)
  | [], _, _, h => h
  | d :: ds, es, h, k => by
    obtain ⟨h1, h2⟩ := h
    unfold PyData.canLayAll0 at h1
    unfold PyData.depthAll at h2
    rw [Bool.and_eq_true] at h1
    exact shs_cons ⟨h1.1, Nat.le_trans (Nat.le_max_left _ _) h2⟩ (Shs.app ⟨h1.2, Nat.le_trans (Nat.le_max_right _ _) h2⟩ k)
theorem Shs.mem {n : Nat} : ∀ {ds : List D}, Shs n ds → ∀ d ∈ ds, Sh n d
  | [], _, d, h => by simp at h
  | x :: ds, h, d, hd => by
    obtain ⟨h1, h2⟩ := h
    unfold PyData.canLayAll0 at h1
    unfold PyData.depthAll at h2
    rw [Bool.and_eq_true] at h1
    rcases List.mem_cons.mp hd with rfl | hd
    · exact ⟨h1.1, Nat.le_trans (Nat.le_max_left _ _) h2⟩
    · exact Shs.mem (ds := ds) ⟨h1.2, Nat.le_trans (Nat.le_max_right _ _) h2⟩ d hd
theorem Sh.ok {n : Nat} {d : D} (h : Sh n d) (hn : n ≤ 64 := by decide) : SeqAt.shaped d = true := by
  unfold SeqAt.shaped
  rw [h.1, decide_eq_true (Nat.le_trans h.2 hn)]; rfl
theorem Sh.flat {n : Nat} {d : D} (h : Sh n d) : flat0 d = true := flat_of_canLay h.1
theorem Sh.eqv {n : Nat} {d : D} (h : Sh n d) : PyData.eqv d d = true := eqv_refl d h.flat
/-! ### a lambda handed to _law_refused -/
section
variable {X : Cx} {nm fl x ret : Str} {C fI g c P : Addr} {k : Nat} {st : Stmt} {fdg : FuncData} {T : List (Addr × Str)} {params : Arguments} {body : Expr} {scope : Scope} {t : XK → TE} {p lpos pos : Pos} {j : Nat} {p1 p2 p3 p4 p5 p6 p7 p8 p9 p10 p11 : Pos}
open LamX in
theorem lam_ref (F : Fun X.K x x st g fdg) (Sg : FnScope ["call", "e"] ["call"] (defScope st)) (hst : defBody st = [.Try [.Expr (.Call (.Name "call" p1) [] [] p2) p3] [.ExceptHandler (some (.Name nm p4)) (some "e") [.Return (some (.Attribute (.Name "e" p5) fl p6)) p7] p8] [] [] p9, .Return (some (.Constant (.str ret) j p10)) p11])
    (TX : BX.ExTxt X.prog X.K X.mg nm fl C fI) (te : PySem.W.exmOne X.K (.ref C) (.ref C) = some true) (hge : (defScope st).names.lookup nm = some .globalImplicit) (hde : (nm == ("__debug__" : Str)) = false) (hle : (defScope st).names.lookup ("e" : Str) = some .local) (hva : Vis (defScope st) "call")
    (hb : ∀ kV doc pm an cdv ct, L2.Binds X.K (PySem.W.fnOf x x (defArgs st) (defBody st) (defScope st) .none kV doc pm an cdv ct) ["call"] [])
    (hm : X.mg x = some (.ref g)) (hg : Gl X x) (TB : TabB X.base X.mg c P) (hcode : X.env.code = .ref c) (hmT : (P, X.env.qual ++ "<lambda>") ∈ T) (hu : ∀ p ∈ T, p.1 = P → p.2 = X.env.qual ++ "<lambda>") (hr : Room (k + 2) X.A) (L : LamS X.env.scope scope) (hdef : defaultsOf params X.env = ([], []))
    (hbind : ∀ (q : Str) (cl : List (Str × Addr)) (pm cv ctv : Value), bindArgs (PySem.W.kla_fn "<lambda>" q params body scope cl pm cv ctv) ⟨[], []⟩ = pure [])
    (hbody : ∀ (A : Around) (outer : List Env) (s : Shared) (H : Hp) (E : XK) (f c' : Addr), Room k (A.deeper (lamEnv X scope s.heap.objs.size f c')) → PE (lamCx X A outer s H E scope f c') body (t E))
    (hdb : (x == ("__debug__" : Str)) = false := by decide) :
    PE X (.Call (.Name x p) [.Lambda params body scope lpos] [] pos) (tLam T (BX.TRef X.K C fl ret) t) := by
  obtain ⟨oc, od, kV, doc, pm, an, cdv, ct, osl, rfl, lk, hcd⟩ := F.ex
  refine pe_lamcall (a := "call") (Ng := ["call", "e"]) hg hm F.kp lk hcd (hb _ _ _ _ _ _) Sg rfl hva ?_ TB hcode hmT hu hr L hdef hbind hbody hdb
  rw [hst]
  exact BX.ref_gives TX te hge hde hle
end
end DL

namespace DL
open PySem PySem.Spec PyProof.Rows L2
section
variable {K : PySem.W.Frag} {E : XK} {s s1 s2 s' : S} {te : TE} {d : D} {o : Out} {t : TS} {σ : L2.St} {H F H0 F0 H' F' : Hp} {fp fp0 fp' : Fp}
/-- a thing held aside -/
theorem EnvW.hold {m : Nat} {P : Addr → Prop} (e : EnvW K σ s H F fp) (o : Own H0 fp0 H F fp P) : EnvW K σ s H F (fpSet fp (.inr m) P) where
  ex := e.ex
  len := e.len
  sl := fun i x h => by rw [fpSet_ne (by intro z; cases z)]; exact e.sl i x h
  tb := e.tb
  dj := fun j k b hjk h1 h2 => by
    by_cases z : j = .inr m
    · subst z; rw [fpSet_same] at h1; rw [fpSet_ne (Ne.symm hjk)] at h2; exact o.dj b k h1 h2
    · rw [fpSet_ne z] at h1
      by_cases y : k = .inr m
      · subst y; rw [fpSet_same] at h2; exact o.dj b j h2 h1
      · rw [fpSet_ne y] at h2; exact e.dj j k b hjk h1 h2
  nf := fun j b h1 => by
    by_cases z : j = .inr m
    · subst z; rw [fpSet_same] at h1; exact o.nf b h1
    · rw [fpSet_ne z] at h1; exact e.nf j b h1
  th := fun j b h1 => by
    by_cases z : j = .inr m
    · subst z; rw [fpSet_same] at h1; exact o.th b h1
    · rw [fpSet_ne z] at h1; exact e.th j b h1
  nt := e.nt
theorem EnvW.letGo {m : Nat} (e : EnvW K σ s H F fp) : EnvW K σ s H F (fpSet fp (.inr m) noP) := e.hold (H0 := H) (fp0 := fp) (Own.none (F := F))
/-- f(e, ..), e a new list that f may change -/
theorem ev_callOw {R : FR} {tr : TA} {ds es : List D} {sx : List Sl} (h : EvO K te s (lstR K none es) s1) (ha : EvA K tr s1 ds s2)
    (hR : ∀ v, R ⟨.res (lstR K (some v) es) :: ds.map .dat, s2.g⟩ (.rt d ⟨sx, s2.g⟩)) : Ev K (tCall (spF K R) [] E (tCons te tr)) s d s2 := fun σ H F fp e Q q =>
  h σ H F fp e _ fun v H1 F1 fp1 P e1 st1 a1 o1 => ha σ H1 F1 fp1 e1 _ fun vs H2 F2 fp2 e2 st2 a2 => by
    obtain ⟨a, ws, h1, h2, h3, h4, h5⟩ := a1
    cases h1
    have la : Live H1 a := o1.th a ((h3 a).mpr rfl)
    have na : ∀ i, ¬ fp1 i a := fun i hi => o1.dj a i ((h3 a).mpr rfl) hi
    have na2 : ∀ i, ¬ fp2 i a := fun i hi => by
      rcases st2.fpn i a hi with ⟨j, hj⟩ | hn
      · exact na j hj
      · exact hn la
    have hl2 : H2 a = some (.lst ws) := st2.keep a _ h4 (by intro ps z; cases z) na
    have oP : Own H fp H2 F2 fp2 (fun b => b = a) := ⟨fun b hb => hb ▸ st2.new a (o1.nf a ((h3 a).mpr rfl)) la na, fun b i hb hi => na2 i (hb ▸ hi), fun b hb => by subst hb; exact ⟨_, hl2, by intro ps z; cases z⟩, fun b hb => by subst hb; exact o1.new _ ((h3 _).mpr rfl)⟩
    have e3 := e2.hold (m := 0) oP
    have st3 := (st1.trans st2).own (i := .inr 0) oP
    show spF K R ((V.ref a :: vs) ++ []) H2 Q E
    rw [List.append_nil]
    refine ⟨⟨.res (lstR K (some (.ref a)) es) :: ds.map .dat, s2.g⟩, F2, fun j b => j = .inl 0 ∧ b = a, _, ⟨e2.ex, by simp [a2.length], fun k x hx => ?_, e2.tb, fun j k b hjk h1 h2 => hjk (h1.1.trans h2.1.symm), fun j b h => oP.nf b h.2, fun j b h => oP.th b h.2, e2.nt⟩, hR (.ref a), fun v H' F' fp' e' st av => ?_⟩
    · cases k with
      | zero =>
        simp at hx
        subst hx
        exact ⟨a, ws, rfl, fun v hv => (Option.some.inj hv).symm, fun b => ⟨fun z => z.2, fun z => ⟨rfl, z⟩⟩, hl2, h5.ex st2.ex⟩
      | succ k =>
        simp at hx
        obtain ⟨d, hd, rfl⟩ := hx
        obtain ⟨v, hv, hdv⟩ := a2.get hd
        exact ⟨v, by simp [hv], hdv⟩
    · have h := frame (J := fun j => j = .inr 0) (fun _ => .inl 0) (s2 := s2) e3 (fun j k hj hk _ => hj.trans hk.symm) (fun (j : Ix) (b : Addr) (h : j = .inl 0 ∧ b = a) => ⟨.inr 0, rfl, by rw [fpSet_same]; exact h.2⟩) e' st rfl (fun k x hx => ⟨(fun z => nomatch z), fun _ => hx⟩) rfl
      exact q v H' F' _ (h.1.letGo (m := 0)) ((st3.trans h.2).trans (Step.drop (i := .inr 0))) av
end
end DL
namespace DL
open PySem PySem.Spec PyProof.Rows L2
section
variable {K : PySem.W.Frag} {E : XK} {s s1 s2 s3 s' : S} {te ta tb : TE} {t u : TT} {d : D} {b : Bool}
theorem et_andF (h1 : EvT K t s false s1) : EvT K (tAnd t u) s false s1 := et_and (b := false) h1 (fun z => nomatch z)
theorem et_orT (h1 : EvT K t s true s1) : EvT K (tOr t u) s true s1 := et_or (b := false) h1 (fun z => nomatch z)
theorem ev_andF (h1 : Ev K ta s (.bool false) s1) : Ev K (tAndV ta tb) s (.bool false) s1 := ev_and (b := false) h1 (fun z => nomatch z)
theorem ev_orT (h1 : Ev K ta s (.bool true) s1) : Ev K (tOrV ta tb) s (.bool true) s1 := ev_or (b := false) h1 (fun z => nomatch z)
theorem ev_addL {xs ys : List D} (ha : Ev K ta s (.list xs) s1) (hb : Ev K tb s1 (.list ys) s2) (h : xs.length + ys.length ≤ sizeLine) : Ev K (tOp (rD2 K addOk addD) ta tb) s (.list (xs ++ ys)) s2 := ev_op ha hb h
theorem ev_addT {xs ys : List D} (ha : Ev K ta s (.tuple xs) s1) (hb : Ev K tb s1 (.tuple ys) s2) (h : xs.length + ys.length ≤ sizeLine) : Ev K (tOp (rD2 K addOk addD) ta tb) s (.tuple (xs ++ ys)) s2 := ev_op ha hb h
theorem ev_intI {i : Int} (ha : Ev K ta s (.int i) s1) : Ev K (tCB (rDn K intOk intD) (tCons ta tNil)) s (.int i) s1 := ev_cb (ea_cons ha ea_nil) trivial
theorem ev_absI {i : Int} (ha : Ev K ta s (.int i) s1) : Ev K (tCB (rDn K absOk absD) (tCons ta tNil)) s (.int (if i < 0 then -i else i)) s1 := ev_cb (ea_cons ha ea_nil) trivial
theorem ev_maxI {i j : Int} (ha : Ev K ta s (.int i) s1) (hb : Ev K tb s1 (.int j) s2) : Ev K (tCB (rDn K mmOk maxD) (tCons ta (tCons tb tNil))) s (.int (max i j)) s2 := ev_cb (ea_cons ha (ea_cons hb ea_nil)) trivial
theorem ev_minI {i j : Int} (ha : Ev K ta s (.int i) s1) (hb : Ev K tb s1 (.int j) s2) : Ev K (tCB (rDn K mmOk minD) (tCons ta (tCons tb tNil))) s (.int (min i j)) s2 := ev_cb (ea_cons ha (ea_cons hb ea_nil)) trivial
theorem ev_chainI {a b c : Int} {tc : TE} (ha : Ev K ta s (.int a) s1) (hb : Ev K tb s1 (.int b) s2) (hc : Ev K tc s2 (.int c) s2) : Ev K (tChain (rD2 K ordOk leD) (rD2 K ordOk leD) ta tb tc) s (.bool (decide (a ≤ b) && decide (b ≤ c))) s2 :=
  ev_chain ha hb trivial rfl (fun _ => hc) (fun _ => trivial) (fun _ => rfl)
theorem spf_len {R : FR} {n : Nat} (h : ∀ s o, R s o → s.s.length = n) {vs : List V} {H : Hp} {Q : VK} (w : spF K R vs H Q E) : vs.length = n := by
  obtain ⟨s, F, fp, o, e, hR, _⟩ := w
  have := e.len
  rw [List.length_map] at this
  rw [this, h s o hR]
end
end DL

namespace DL
open PySem PySem.Spec PyProof.Rows L2
/-! ### forgetting -/
inductive Fo : List Sl → List Sl → Prop
  | nil : Fo [] []
  | same {x : Sl} {l m : List Sl} : Fo l m → Fo (x :: l) (x :: m)
  | unk {x : Sl} {l m : List Sl} : Fo l m → Fo (x :: l) (.unk :: m)
theorem Fo.len : ∀ {l m : List Sl}, Fo l m → l.length = m.length
  | _, _, .nil => rfl
  | _, _, .same h => by simp [Fo.len h]
  | _, _, .unk h => by simp [Fo.len h]
theorem Fo.at : ∀ {l m : List Sl}, Fo l m → ∀ (i : Nat) (x : Sl), m[i]? = some x → x = .unk ∨ l[i]? = some x
  | _, _, .nil, i, x, h => by simp at h
  | _, _, .same h, 0, x, e => .inr (by simpa using e)
  | _, _, .same h, i + 1, x, e => by simpa using Fo.at h i x (by simpa using e)
  | _, _, .unk h, 0, x, e => .inl (by simpa using e.symm)
  | _, _, .unk h, i + 1, x, e => by simpa using Fo.at h i x (by simpa using e)
theorem Fo.le {l m : List Sl} {g : List (Addr × Str)} (h : Fo l m) : SLe ⟨l, g⟩ ⟨m, g⟩ := ⟨h.len, h.at, rfl⟩
/-! ### the script -/
section
variable {K : PySem.W.Frag} {E : XK} {s s1 s2 s3 s' : S} {te ta tb : TE} {t u : TT} {d : D} {b : Bool} {ns : List Int}
theorem ev_ifP {x : D} (h : EvT K t s b s) (h1 : b = true → Ev K ta s x s) (h2 : b = false → Ev K tb s x s) : Ev K (tIf t ta tb) s x s := ev_if h h1 h2
theorem ev_ifT {x : D} (h : EvT K t s true s1) (h1 : Ev K ta s1 x s2) : Ev K (tIf t ta tb) s x s2 := ev_if h (fun _ => h1) (fun z => nomatch z)
theorem ev_ifF {x : D} (h : EvT K t s false s1) (h1 : Ev K tb s1 x s2) : Ev K (tIf t ta tb) s x s2 := ev_if h (fun z => nomatch z) (fun _ => h1)
theorem ev_lenS (h : Ev K te s (scrD ns) s1) : Ev K (tCB (rDn K lenOk lenD) (tCons te tNil)) s (.int ns.length) s1 := by
  refine (ev_cb (ea_cons h ea_nil) (by show (intsOf (ns.map PyData.int)).isSome = true; rw [intsOf_map]; rfl)).to ?_
  show PyData.int ((ns.map PyData.int).length : Nat) = _
  rw [List.length_map]
theorem ev_ixS {i n : Int} (ha : Ev K ta s (scrD ns) s1) (hb : Ev K tb s1 (.int i) s2) (h : atI ns i = some n) : Ev K (tOp (rD2 K ixOk ixD) ta tb) s (.int n) s2 := by
  have e : atI (ns.map PyData.int) i = some (.int n) := by
    unfold atI at h ⊢
    rw [List.length_map]
    cases q : ixN ns.length i with
    | none => rw [q] at h; cases h
    | some j =>
      rw [q] at h
      show (ns.map PyData.int)[j]? = _
      rw [List.getElem?_map, show ns[j]? = some n from h]; rfl
  refine (ev_op ha hb ⟨by rw [intsOf_map]; rfl, by rw [e]; rfl⟩).to ?_
  show (atI (ns.map PyData.int) i).getD .none = _
  rw [e]; rfl
theorem ev_slS {tl th : TO} {lo hi : Option Int} (h : Ev K te s (scrD ns) s1) (h1 : EvP K tl s1 lo s2) (h2 : EvP K th s2 hi s3) : Ev K (tSl (rSlU K) te tl th) s (.list (cutL (ns.map PyData.int) lo hi)) s3 :=
  ev_sl h h1 h2 (by show (intsOf (ns.map PyData.int)).isSome = true; rw [intsOf_map]; rfl)
theorem ev_slL {xs : List D} {tl th : TO} {lo hi : Option Int} (h : Ev K te s (.list xs) s1) (h1 : EvP K tl s1 lo s2) (h2 : EvP K th s2 hi s3) : Ev K (tSl (rSlU K) te tl th) s (.list (cutL xs lo hi)) s3 := ev_sl h h1 h2 trivial
theorem ev_slT {xs : List D} {tl th : TO} {lo hi : Option Int} (h : Ev K te s (.tuple xs) s1) (h1 : EvP K tl s1 lo s2) (h2 : EvP K th s2 hi s3) : Ev K (tSl (rSlU K) te tl th) s (.tuple (cutL xs lo hi)) s3 := ev_sl h h1 h2 trivial
end
theorem fold_at {α β : Type} {f : β → α → β} {a : β} {l : List α} {i : Nat} {c : α} (h : l[i]? = some c) : (l.take (i + 1)).foldl f a = f ((l.take i).foldl f a) c := by
  rw [List.take_add_one, h, List.foldl_append]; rfl
theorem map_at {α : Type} {f : α → D} {l : List α} {i : Nat} {d : D} (h : (l.map f)[i]? = some d) : ∃ c, l[i]? = some c ∧ d = f c := by
  rw [List.getElem?_map] at h
  cases q : l[i]? with
  | none => rw [q] at h; cases h
  | some c => rw [q] at h; exact ⟨c, rfl, (Option.some.inj h).symm⟩
theorem cut_to {α : Type} {xs : List α} {n : Int} (h : 0 ≤ n) : cutL xs none (some n) = xs.take n.toNat := by
  unfold cutL
  obtain ⟨k, rfl⟩ := Int.eq_ofNat_of_zero_le h
  rw [HT.sIx_nat, HT.sIx_none, Nat.sub_zero, List.drop_zero, Int.toNat_natCast]
  by_cases h : k ≤ xs.length
  · rw [Nat.min_eq_left h]
  · rw [Nat.min_eq_right (by omega), List.take_of_length_le (Nat.le_refl _), List.take_of_length_le (by omega)]
theorem cut_from {α : Type} {xs : List α} {n : Int} (h : 0 ≤ n) : cutL xs (some n) none = xs.drop n.toNat := by
  unfold cutL
  obtain ⟨k, rfl⟩ := Int.eq_ofNat_of_zero_le h
  rw [HT.sIx_nat, HT.sIx_none, Int.toNat_natCast]
  by_cases h : k ≤ xs.length
  · rw [Nat.min_eq_left h, List.take_of_length_le (by simp)]
  · rw [Nat.min_eq_right (by omega), Nat.sub_self, List.take_zero, List.drop_of_length_le (by omega)]
end DL
namespace DL
open PySem PySem.Spec PyProof.Rows L2
/-! ### the first place where p holds, from i on, m places at most -/
def lf (p : Nat → Bool) : Nat → Nat → Nat
  | i, 0 => i
  | i, m + 1 => if p i then i else lf p (i + 1) m
theorem lf_spec (p : Nat → Bool) : ∀ (m i : Nat), p (i + m) = true → i ≤ lf p i m ∧ lf p i m ≤ i + m ∧ p (lf p i m) = true ∧ ∀ j, i ≤ j → j < lf p i m → p j = false
  | 0, i, h => ⟨Nat.le_refl _, Nat.le_refl _, h, fun j h1 h2 => absurd h2 (Nat.not_lt.mpr h1)⟩
  | m + 1, i, h => by
    unfold lf
    by_cases q : p i = true
    · rw [if_pos q]; exact ⟨Nat.le_refl _, Nat.le_add_right _ _, q, fun j h1 h2 => absurd h2 (Nat.not_lt.mpr h1)⟩
    · rw [if_neg q]
      obtain ⟨h1, h2, h3, h4⟩ := lf_spec p m (i + 1) (by rw [show i + 1 + m = i + (m + 1) by omega]; exact h)
      refine ⟨by omega, by omega, h3, fun j j1 j2 => ?_⟩
      by_cases e : j = i
      · subst e; simpa using q
      · exact h4 j (by omega) j2
theorem le_size {n : Nat} (h : n ≤ 16777216) : n ≤ sizeLine := by rw [sizeLine_eq]; exact h
section
variable {K : PySem.W.Frag} {E : XK} {s s1 s2 s3 s' : S} {te ta tb : TE} {t u : TT} {d : D} {b : Bool} {ds : List D}
theorem ev_tupO {i : Nat} {ov : Option V} (hi : s.s[i]? = some (.res (lstR K ov ds))) : Ev K (tCB (rDn K seqOk tupD) (tCons (tVar i) tNil)) s (.tuple ds) s := ev_cb1 hi trivial
theorem ev_tupL (h : Ev K te s (.list ds) s1) : Ev K (tCB (rDn K seqOk tupD) (tCons te tNil)) s (.tuple ds) s1 := ev_cb (ea_cons h ea_nil) trivial
theorem ev_tupT (h : Ev K te s (.tuple ds) s1) : Ev K (tCB (rDn K seqOk tupD) (tCons te tNil)) s (.tuple ds) s1 := ev_cb (ea_cons h ea_nil) trivial
theorem ev_lstL (h : Ev K te s (.list ds) s1) : Ev K (tCB (rDl K seqOk itemsD) (tCons te tNil)) s (.list ds) s1 := ev_cl (ea_cons h ea_nil) trivial
theorem ev_lstT (h : Ev K te s (.tuple ds) s1) : Ev K (tCB (rDl K seqOk itemsD) (tCons te tNil)) s (.list ds) s1 := ev_cl (ea_cons h ea_nil) trivial
end
theorem upTo_zero {lo : Int} : upTo lo 0 = [] := rfl
theorem upTo_getN {lo : Int} {n i : Nat} (h : i < n) : (upTo lo n)[i]? = some (.int (lo + i)) := by
  unfold upTo
  rw [List.getElem?_map, List.getElem?_range h]; rfl
theorem upTo_take {lo : Int} {n k : Nat} (h : k ≤ n) : (upTo lo n).take k = upTo lo k := by
  unfold upTo
  rw [← List.map_take, List.take_range, Nat.min_eq_left h]
theorem upTo_drop {lo : Int} {n k : Nat} : (upTo lo n).drop k = upTo (lo + k) (n - k) := by
  apply List.ext_getElem?
  intro i
  rw [List.getElem?_drop]
  by_cases h : k + i < n
  · rw [upTo_getN h, upTo_getN (by omega)]; congr 2; omega
  · rw [List.getElem?_eq_none (by rw [upTo_len]; omega), List.getElem?_eq_none (by rw [upTo_len]; omega)]
theorem upTo_mem {lo : Int} {n : Nat} {d : D} : d ∈ upTo lo n ↔ ∃ i : Nat, i < n ∧ d = .int (lo + i) := by
  unfold upTo
  simp only [List.mem_map, List.mem_range]
  exact ⟨fun ⟨i, h, e⟩ => ⟨i, h, e.symm⟩, fun ⟨i, h, e⟩ => ⟨i, h, e.symm⟩⟩
theorem upTo_sh {lo : Int} {n k : Nat} : Shs k (upTo lo n) := shs_of fun d h => by obtain ⟨i, _, rfl⟩ := upTo_mem.mp h; exact sh_int
theorem upTo_in {lo h : Int} {n : Nat} : inB (.int h) (.list (upTo lo n)) = (decide (lo ≤ h) && decide (h < lo + n)) := by
  unfold inB
  by_cases c : lo ≤ h ∧ h < lo + n
  · rw [decide_eq_true c.1, decide_eq_true c.2]
    refine List.any_eq_true.mpr ⟨.int h, upTo_mem.mpr ⟨(h - lo).toNat, by omega, by congr 1; omega⟩, by simp [PyData.eqv]⟩
  · have : (decide (lo ≤ h) && decide (h < lo + n)) = false := by
      simp only [Bool.and_eq_false_iff, decide_eq_false_iff_not]; omega
    rw [this]
    refine List.any_eq_false.mpr fun d hd => ?_
    obtain ⟨i, hi, rfl⟩ := upTo_mem.mp hd
    simp only [PyData.eqv, beq_iff_eq]
    omega
theorem atI_nat {α : Type} {xs : List α} {i : Nat} {x : α} (h : xs[i]? = some x) : atI xs (i : Int) = some x := by
  have hl := (List.getElem?_eq_some_iff.mp h).1
  unfold atI ixN
  rw [if_pos (by omega), if_pos (by omega)]
  exact h
theorem atI_last {α : Type} {xs : List α} {x : α} (h : xs[xs.length - 1]? = some x) : atI xs (-1) = some x := by
  have hl := (List.getElem?_eq_some_iff.mp h).1
  unfold atI ixN
  rw [if_neg (by omega), if_pos (by omega)]
  show xs[(-1 + (xs.length : Int)).toNat]? = _
  rw [show (-1 + (xs.length : Int)).toNat = xs.length - 1 by omega]
  exact h
end DL
namespace DL
open PySem PySem.Spec PyProof.Rows L2
section
variable {K : PySem.W.Frag} {E : XK} {s s1 : S} {tt : TT} {t : TS}
theorem run_whileP (f : Nat → S) (m : Nat) (h0 : SLe s (f 0)) (hs : ∀ i, i < m → EvT K tt (f i) true (f i) ∧ Run K E t (f i) (.nx (f (i + 1)))) (he : EvT K tt (f m) false (f m)) : Run K E (tWhile tt t) s (.nx (f m)) :=
  run_while f f m h0 hs he
end
end DL
namespace DL
theorem Fo.int {a b : Int} {l m : List Sl} (h : a = b) (t : Fo l m) : Fo (.dat (.int a) :: l) (.dat (.int b) :: m) := h ▸ .same t
theorem Fo.dat {a b : D} {l m : List Sl} (h : a = b) (t : Fo l m) : Fo (.dat a :: l) (.dat b :: m) := h ▸ .same t
theorem Fo.lst {K : PySem.W.Frag} {ov : Option L2.V} {a b : List D} {l m : List Sl} (h : a = b) (t : Fo l m) : Fo (.res (lstR K ov a) :: l) (.res (lstR K ov b) :: m) := h ▸ .same t
end DL
namespace DL
open PySem PySem.Spec PyProof.Rows L2
section
variable {K : PySem.W.Frag} {E : XK} {s s1 s2 : S} {t : TS} {d : D} {r : Rs} {te : TE} {Cc : Addr} {fl : Str}
theorem run_rtle (h : Run K E t s (.rt d s1)) (l : SLe s1 s2) : Run K E t s (.rt d s2) := fun σ H F fp e Ed q => h σ H F fp e Ed fun σ' v H' F' fp' e' st a => q σ' v H' F' fp' (e'.le l) st a
theorem run_role (h : Run K E t s (.ro r s1)) (l : SLe s1 s2) : Run K E t s (.ro r s2) := fun σ H F fp e Ed q => h σ H F fp e Ed fun σ' v H' F' fp' P e' st a o => q σ' v H' F' fp' P (e'.le l) st a o
theorem run_exle (h : Run K E t s (.ex Cc fl d s1)) (l : SLe s1 s2) : Run K E t s (.ex Cc fl d s2) := fun σ H F fp e Ed q => h σ H F fp e Ed fun σ' dd v H' F' fp' e' st a b => q σ' dd v H' F' fp' (e'.le l) st a b
theorem run_retle (h : Ev K te s d s1) (l : SLe s1 s2) : Run K E (tRet te) s (.rt d s2) := run_rtle (run_ret h) l
end
end DL
namespace DL
open PySem PySem.Spec PyProof.Rows L2
section
variable {K : PySem.W.Frag} {E : XK} {s s1 s2 : S} {t : TS} {d : D} {te ta : TE} {ms : List Int}
theorem ev_maxL (h : Ev K ta s (.list (ms.map PyData.int)) s1) (hn : ms ≠ []) : Ev K (tCB (rDn K mmOk maxD) (tCons ta tNil)) s (.int (lmax ms)) s1 := by
  refine (ev_cb (ea_cons h ea_nil) ⟨by simpa using hn, by rw [intsOf_map]; rfl⟩).to ?_
  show PyData.int (lmax ((intsOf (ms.map PyData.int)).getD [])) = _
  rw [intsOf_map]; rfl
theorem ev_minL (h : Ev K ta s (.list (ms.map PyData.int)) s1) (hn : ms ≠ []) : Ev K (tCB (rDn K mmOk minD) (tCons ta tNil)) s (.int (lmin ms)) s1 := by
  refine (ev_cb (ea_cons h ea_nil) ⟨by simpa using hn, by rw [intsOf_map]; rfl⟩).to ?_
  show PyData.int (lmin ((intsOf (ms.map PyData.int)).getD [])) = _
  rw [intsOf_map]; rfl
end
end DL

namespace DL
open PySem PySem.Spec PyProof.Rows L2
section
variable {K : PySem.W.Frag} {E : XK} {H : Hp}
/-- what a caller sees behind a body, slot by slot; m: what stands in the body's slots at the end -/
inductive Lv (m : List Sl) : Nat → List V → List Sl → List Sl → Prop
  | nil {i : Nat} : Lv m i [] [] []
  | unk {i : Nat} {v : V} {vs : List V} {x : Sl} {l k : List Sl} : Lv m (i + 1) vs l k → Lv m i (v :: vs) (x :: l) (.unk :: k)
  | dat {i : Nat} {v : V} {vs : List V} {d : D} {l k : List Sl} : Lv m (i + 1) vs l k → Lv m i (v :: vs) (.dat d :: l) (.dat d :: k)
  | res {i : Nat} {v : V} {vs : List V} {x : Sl} {r : Rs} {l k : List Sl} (h : m[i]? = some (.res r)) (hp : Pin r v) : Lv m (i + 1) vs l k → Lv m i (v :: vs) (x :: l) (.res r :: k)
theorem Lv.len {m : List Sl} : ∀ {i : Nat} {vs : List V} {l k : List Sl}, Lv m i vs l k → k.length = l.length
  | _, _, _, _, .nil => rfl
  | _, _, _, _, .unk h => by simp [Lv.len h]
  | _, _, _, _, .dat h => by simp [Lv.len h]
  | _, _, _, _, .res _ _ h => by simp [Lv.len h]
theorem Lv.at {m : List Sl} : ∀ {i : Nat} {vs : List V} {l k : List Sl}, Lv m i vs l k → ∀ (j : Nat) (x : Sl), k[j]? = some x → x = .unk ∨ (∃ d, x = .dat d ∧ l[j]? = some x) ∨ ∃ r v, x = .res r ∧ m[i + j]? = some x ∧ vs[j]? = some v ∧ Pin r v
  | _, _, _, _, .nil, j, x, h => by simp at h
  | _, _, _, _, .unk t, 0, x, h => .inl (by simpa using h.symm)
  | _, _, _, _, .dat t, 0, x, h => by
    simp at h; subst h
    exact .inr (.inl ⟨_, rfl, by simp⟩)
  | _, _, _, _, .res h1 hp t, 0, x, h => by
    simp at h; subst h
    exact .inr (.inr ⟨_, _, rfl, by simpa using h1, by simp, hp⟩)
  | i, _, _, _, .unk t, j + 1, x, h => by
    have := Lv.at t j x (by simpa using h)
    rw [show i + 1 + j = i + (j + 1) by omega] at this
    simpa using this
  | i, _, _, _, .dat t, j + 1, x, h => by
    have := Lv.at t j x (by simpa using h)
    rw [show i + 1 + j = i + (j + 1) by omega] at this
    simpa using this
  | i, _, _, _, .res _ _ t, j + 1, x, h => by
    have := Lv.at t j x (by simpa using h)
    rw [show i + 1 + j = i + (j + 1) by omega] at this
    simpa using this
theorem Lv.leave {vs : List V} {s0 s1 s' : S} (h : Lv s1.s 0 vs s0.s s'.s) (hg : s'.g = s1.g) : Leave vs s0 s1 s' := ⟨h.len, fun i x hx => by
  rcases h.at i x hx with e | e | ⟨r, v, e1, e2, e3, e4⟩
  · exact .inl e
  · exact .inr (.inl e)
  · exact .inr (.inr ⟨r, v, e1, by rw [Nat.zero_add] at e2; exact e2, e3, e4⟩), hg⟩
/-- a body that runs keeps its promise: the same, in short -/
theorem run_bodyS {N : List Str} {n : Nat} {vs : List V} {t : TS} {R : FR} {Q : VK} (hl : n ≤ N.length) (hn : ∀ s o, R s o → s.s.length = n) (h : spF K R vs H Q E)
    (hr : ∀ s o, R s o → vs.length = n → (∃ F fp, EnvW K (vs.map some) s H F fp) → ∃ o1, Run K E t (s.more (N.length - n)) o1 ∧ Ret vs s o1 o) : t { nx := fun _ H' => Q .non H', rt := Q } (L2.start N vs) H := by
  have hv : vs.length = n := spf_len hn h
  refine run_body (by rw [hv]; exact hl) h fun s o hR hlen F fp e => ?_
  rw [hv]
  exact hr s o hR hv ⟨F, fp, e⟩
theorem pin_at {v0 v : V} {vs : List V} {es : List D} {l : List Sl} {g : List (Addr × Str)} (h : ∃ F fp, EnvW K ((v0 :: vs).map some) ⟨.res (lstR K (some v) es) :: l, g⟩ H F fp) : v0 = v := by
  obtain ⟨F, fp, e⟩ := h
  obtain ⟨a, ws, h1, h2, _⟩ := e.sl 0 _ rfl
  have := h2 v rfl
  subst this
  simpa using h1
theorem len1 {vs : List V} (h : vs.length = 1) : ∃ a, vs = [a] := match vs, h with | [a], _ => ⟨a, rfl⟩
theorem len2 {vs : List V} (h : vs.length = 2) : ∃ a b, vs = [a, b] := match vs, h with | [a, b], _ => ⟨a, b, rfl⟩
theorem len3 {vs : List V} (h : vs.length = 3) : ∃ a b c, vs = [a, b, c] := match vs, h with | [a, b, c], _ => ⟨a, b, c, rfl⟩
theorem len4 {vs : List V} (h : vs.length = 4) : ∃ a b c d, vs = [a, b, c, d] := match vs, h with | [a, b, c, d], _ => ⟨a, b, c, d, rfl⟩
theorem len5 {vs : List V} (h : vs.length = 5) : ∃ a b c d e, vs = [a, b, c, d, e] := match vs, h with | [a, b, c, d, e], _ => ⟨a, b, c, d, e, rfl⟩
theorem len6 {vs : List V} (h : vs.length = 6) : ∃ a b c d e f, vs = [a, b, c, d, e, f] := match vs, h with | [a, b, c, d, e, f], _ => ⟨a, b, c, d, e, f, rfl⟩
theorem len0 {vs : List V} (h : vs.length = 0) : vs = [] := List.length_eq_zero_iff.mp h
theorem len7 {vs : List V} (h : vs.length = 7) : ∃ a b c d e f g, vs = [a, b, c, d, e, f, g] := match vs, h with | [a, b, c, d, e, f, g], _ => ⟨a, b, c, d, e, f, g, rfl⟩
theorem len8 {vs : List V} (h : vs.length = 8) : ∃ a b c d e f g i, vs = [a, b, c, d, e, f, g, i] := match vs, h with | [a, b, c, d, e, f, g, i], _ => ⟨a, b, c, d, e, f, g, i, rfl⟩
theorem len9 {vs : List V} (h : vs.length = 9) : ∃ a b c d e f g i j, vs = [a, b, c, d, e, f, g, i, j] := match vs, h with | [a, b, c, d, e, f, g, i, j], _ => ⟨a, b, c, d, e, f, g, i, j, rfl⟩
theorem FunC.binds {K : PySem.W.Frag} {x qual : Str} {st : Stmt} {f : Addr} {fd : FuncData} {c : Addr} {ps : List Str} (F : FunC K x qual st f fd c)
    (h : ∀ (kV doc pm : Value) (an : Option Addr) (cdv ct : Value) (us : List Value), us.length = ps.length → bindArgs (PySem.W.fnOf x qual (defArgs st) (defBody st) (defScope st) .none kV doc pm an cdv ct) ⟨us, []⟩ = pure (ps.zip us)) : L2.Binds K fd ps [] := F.toFun.binds h
theorem funC_mk {K : PySem.W.Frag} {x qual : Str} {st : Stmt} {f c : Addr} {oc : Value} {od an : Option Addr} {osl : Array (Option Value)} {kV doc pm ct : Value} (l : K.lookup f = some ⟨oc, od, .func (PySem.W.fnOf x qual (defArgs st) (defBody st) (defScope st) .none kV doc pm an (.ref c) ct), osl⟩)
    (cc : PySem.W.codeIn K (.ref c) qual = true) (k : PySem.W.keepIn K (.ref f) = true) : FunC K x qual st f (PySem.W.fnOf x qual (defArgs st) (defBody st) (defScope st) .none kV doc pm an (.ref c) ct) c := ⟨⟨oc, od, kV, doc, pm, an, ct, osl, rfl, l, cc⟩, k⟩
theorem Fun.kwb {K : PySem.W.Frag} {x qual : Str} {st : Stmt} {f : Addr} {fd : FuncData} {ps ks : List Str} {n : Nat} {p : List Nat} (F : Fun K x qual st f fd)
    (h : ∀ (kV doc pm : Value) (an : Option Addr) (cdv ct : Value) (us ws : List Value), us.length = n → ws.length = ks.length → bindArgs (PySem.W.fnOf x qual (defArgs st) (defBody st) (defScope st) .none kV doc pm an cdv ct) ⟨us, ks.zip ws⟩ = pure (ps.zip (arr .none p (us ++ ws))))
    (hl : ∀ i ∈ p, i < n + ks.length) (hp : p.length = ps.length) : KwB K fd ps ks n p := by
  obtain ⟨oc, od, kV, doc, pm, an, cdv, ct, osl, rfl, lk, hcd⟩ := F.ex
  exact ⟨fun s us ws h1 h2 => .of_eq (h kV doc pm an cdv ct us ws h1 h2), hl, hp⟩
end
end DL
namespace DL
open PySem PySem.Spec PyProof.Rows L2 LamX
theorem cx_no {P : Program} {w : World} {H : Hp} {s : Shared} {e : Value} {s' : Shared} (h : L2.CX P w [] H s (fun _ _ _ => False) e s') : False := by
  obtain ⟨_, _, _, _, _, _, _, _, _, _, _, _, z⟩ := h
  exact z.elim
theorem one_tab {T : List (Addr × Str)} (d : T.Pairwise fun x y => x.1 ≠ y.1) {P : Addr} {q : Str} (h : (P, q) ∈ T) {p : Addr × Str} (hp : p ∈ T) (e : p.1 = P) : p.2 = q := by
  induction T with
  | nil => cases h
  | cons x T ih =>
    rw [List.pairwise_cons] at d
    rcases List.mem_cons.mp h with h1 | h1 <;> rcases List.mem_cons.mp hp with h2 | h2
    · rw [h2, ← h1]
    · exact absurd (show x.1 = p.1 by rw [← h1]; exact e.symm) (d.1 p h2)
    · exact absurd (show x.1 = P by rw [← h2]; exact e) (d.1 (P, q) h1)
    · exact ih d.2 h1 h2
/-- the promise of law(script) -/
theorem law_sp {K : PySem.W.Frag} {R : FR} {T : List (Addr × Str)} {H : Hp} {a : Addr} {ns : List Int} (hT : ∀ x ∈ T, H x.1 = some (.tbl #[])) (hs : SqL K H a (ns.map V.int)) (hR : R ⟨[.dat (scrD ns)], T⟩ (.rt (.bool true) ⟨[.dat (scrD ns)], T⟩)) :
    spF K R [.ref a] H (fun v _ => v = .bl true) (fun _ _ _ => False) := by
  have fin : ∀ F : Hp, Ex F H → (∀ b o, F b = some o → NoTbl o) → SqL K F a (ns.map V.int) → spF K R [.ref a] H (fun v _ => v = .bl true) (fun _ _ _ => False) := fun F eF nt hF =>
    ⟨⟨[.dat (scrD ns)], T⟩, F, fun _ _ => False, _, ⟨eF, rfl, fun i x h => by
      cases i with
      | zero => simp at h; subst h; exact ⟨.ref a, rfl, .scr hF⟩
      | succ i => simp at h, fun x hx => TabS.nil (hT x hx), fun _ _ _ _ h => h.elim, fun _ _ h => h.elim, fun _ _ h => h.elim, nt⟩, hR, fun v H' F' fp' e st av => by cases av; rfl⟩
  rcases hs with hr | hk
  · have mk : ∀ o, H a = some o → NoTbl o → Rd (fun b => if b = a then H b else none) a (.lst (ns.map V.int)) → spF K R [.ref a] H (fun v _ => v = .bl true) (fun _ _ _ => False) := fun o ho hn hr' => by
      refine fin (fun b => if b = a then H b else none) (fun b u q => ?_) (fun b u q => ?_) (.inl hr')
      · have q : (if b = a then H b else none) = some u := q
        split at q
        · exact q
        · cases q
      · have q : (if b = a then H b else none) = some u := q
        by_cases e : b = a
        · rw [if_pos e, e, ho] at q; cases q; exact hn
        · rw [if_neg e] at q; cases q
    rcases hr with h | ⟨o, h⟩
    · exact mk _ h (by intro ps z; cases z) (.inl (by simp [h]))
    · exact mk _ h (by intro ps z; cases z) (.inr ⟨o, by simp [h]⟩)
  · exact fin (fun _ => none) (fun _ _ q => nomatch q) (fun _ _ q => nomatch q) (.inr hk)
theorem law_at {l : PySem.W.OpenLaw} {w : World} {K : PySem.W.Frag} {CX : CXT} {k n : Nat} {mg : Str → Option Value} {fa : Addr} {h : Heap} {fd : FuncData} {R : FR} {ta : List (Addr × Str)} {cs : List (Addr × Addr)}
    (hT : ∀ p ∈ cs, h.get? p.2 = some { cls := .none, data := .fields #[] }) (nT : ∀ p ∈ cs, K.lookup p.2 = none) (hC : ∀ p ∈ cs, PySem.W.CodeHd h p.1 p.2)
    (hb : ∀ (s : Shared) (u : Value), BindsTo s fd ⟨[u], []⟩ [("script", u)]) (hcs : ∀ x ∈ ta, ∃ c, (c, x.1) ∈ cs)
    (hR : ∀ ns : List Int, ns.length ≤ n → R ⟨[.dat (scrD ns)], ta⟩ (.rt (.bool true) ⟨[.dat (scrD ns)], ta⟩))
    (hF : ∀ base : Heap, K.In base → base.Ns mainGlobals mg → (∀ p ∈ cs, TabB base mg p.1 p.2) → FnOk l.prog w K mg base CX k fa fd ["script"] (spF K R)) : LawAtS l w K CX k n "script" mg fa h :=
  ⟨fd, cs, spF K R, hT, nT, hC, hb, fun H a ns hl _ ht hs => law_sp (fun x hx => by obtain ⟨c, hc⟩ := hcs x hx; exact ht _ hc) hs (hR ns hl), hF⟩
end DL

namespace CM
open PySem PySem.Spec PyProof.Rows L2 DL
/-! ### the dice -/
structure Dice where
  a : Int
  b : Int
  c : Int
def dl (d : Dice) : List D := [.int d.a, .int d.b, .int d.c]
def rd (d : Dice) (t : Int) : Dice := if 0 < d.a then ⟨d.a / t, d.b, d.c⟩ else ⟨d.a, (d.b * 52501 + (d.c + 1) * (d.c + 1) * 1009 + 77) % 2147480009, d.c + 1⟩
def rv (d : Dice) (t : Int) : Int := if 0 < d.a then d.a % t else (rd d t).b / 211 % t
structure DOk (n : Int) (d : Dice) : Prop where
  b0 : 0 ≤ d.b
  b1 : d.b < 2147480009
  c0 : 0 ≤ d.c
  c1 : d.c ≤ n
theorem DOk.rd {n t : Int} {d : Dice} (h : DOk n d) : DOk (n + 1) (CM.rd d t) := by
  unfold CM.rd
  have := h.b0; have := h.b1; have := h.c0; have := h.c1
  split
  · exact ⟨h.b0, h.b1, h.c0, by show d.c ≤ n + 1; omega⟩
  · refine ⟨Int.emod_nonneg _ (by decide), Int.emod_lt_of_pos _ (by decide), by show 0 ≤ d.c + 1; omega, by show d.c + 1 ≤ n + 1; omega⟩
theorem DOk.up {n m : Int} {d : Dice} (h : DOk n d) (hm : n ≤ m) : DOk m d := ⟨h.b0, h.b1, h.c0, Int.le_trans h.c1 hm⟩
theorem rv0 {d : Dice} {t : Int} (ht : 0 < t) : 0 ≤ rv d t := by unfold rv; split <;> exact Int.emod_nonneg _ (by omega)
theorem rv1 {d : Dice} {t : Int} (ht : 0 < t) : rv d t < t := by unfold rv; split <;> exact Int.emod_lt_of_pos _ ht
def pick (d : Dice) (xs : List D) : D := xs.getD (rv d xs.length).toNat .none
theorem pick_mem {d : Dice} {xs : List D} (h : xs ≠ []) : pick d xs ∈ xs := by
  have hl : 0 < xs.length := List.length_pos_iff.mpr h
  have h0 := rv0 (d := d) (t := xs.length) (by omega)
  have h1 := rv1 (d := d) (t := xs.length) (by omega)
  unfold pick
  have hi : (rv d xs.length).toNat < xs.length := by omega
  rw [List.getD_eq_getElem?_getD, List.getElem?_eq_getElem hi]
  exact List.getElem_mem _
theorem pick_at {d : Dice} {xs : List D} (h : xs ≠ []) : atI xs (rv d xs.length) = some (pick d xs) := by
  have hl : 0 < xs.length := List.length_pos_iff.mpr h
  have h0 := rv0 (d := d) (t := xs.length) (by omega)
  have h1 := rv1 (d := d) (t := xs.length) (by omega)
  have hi : (rv d xs.length).toNat < xs.length := by omega
  have e : ixN xs.length (rv d xs.length) = some (rv d xs.length).toNat := by
    unfold ixN
    simp [h0, h1, hi]
  unfold atI pick
  rw [e]
  show xs[(rv d xs.length).toNat]? = _
  rw [List.getD_eq_getElem?_getD, List.getElem?_eq_getElem hi]
  rfl
end CM

namespace DL
open PySem PySem.Spec PyProof.Rows L2
/-! ### zip of two sequences, each a list or a tuple -/
def SqK (k : Bool) (K : PySem.W.Frag) (H : Hp) (a : Addr) (xs : List V) : Prop := if k = true then SqL K H a xs else SqT K H a xs
def IsSq (k : Bool) (h : Heap) (a : Addr) (its : Array Value) : Prop := if k = true then h.IsList a its else h.IsTuple a its
def IsSqI (k : Bool) (h : Heap) (it a : Addr) (i : Nat) : Prop := if k = true then h.IsListIter it a i else h.IsTupleIter it a i
def itO (k : Bool) (a : Addr) : Obj := { cls := .type (if k = true then "list_iterator" else "tuple_iterator"), data := .fields #[.ref a, .int 0 0] }
section
variable {X : Cx} {pins : List (Addr × Obj)} {s : Shared} {σ : L2.St} {H : Hp} {k k1 k2 : Bool} {a b : Addr} {xs ys : List V}
theorem sqk_items (I : Inv X pins σ H s) (h : SqK k X.K H a xs) : ∃ its : List Value, Vals xs its ∧ IsSq k s.heap a its.toArray ∧ a < s.heap.objs.size := by
  cases k with
  | true =>
    obtain ⟨its, r, p, _⟩ := I.list (show SqL X.K H a xs from h)
    exact ⟨its, r, p.isList, p.lt⟩
  | false =>
    obtain ⟨its, r, p, _⟩ := I.tuple (show SqT X.K H a xs from h)
    have p' : s.heap.IsTuple a its.toArray := p
    obtain ⟨o, ho, _⟩ := id p'
    exact ⟨its, r, p', Heap.lt_size ho⟩
theorem sqk_inj (I : Inv X pins σ H s) (h : SqK k X.K H a xs) (h' : SqK k X.K H a ys) : xs = ys := by
  cases k with
  | true => exact I.list_inj (show SqL X.K H a xs from h) (show SqL X.K H a ys from h')
  | false => exact I.tuple_inj (show SqT X.K H a xs from h) (show SqT X.K H a ys from h')
theorem sqk_draws {prog : Program} {w : World} {A : Around} (hh : A.handled = none) (it : Addr) (hne : a ≠ it) (items : Array Value) : Draws prog w A it [it, a] items.size (fun i v => items[i]? = some v) (fun i h => IsSqI k h it a i ∧ IsSq k h a items) := by
  cases k with
  | true => exact Draws.list hh it a hne items
  | false => exact Draws.tuple hh it a hne items
theorem sqk_begins (items : Array Value) : Begins (.ref a) (itO k a) fun h => IsSq k h a items := by
  cases k with
  | true => exact begins_list a items
  | false => exact begins_tuple a items
theorem sqi_at {h h' : Heap} {it : Addr} {i : Nat} (x : IsSqI k h it a i) (hk : ∀ o, h.get? it = some o → h'.get? it = some o) : IsSqI k h' it a i := by
  cases k with
  | true => exact Heap.IsListIter.at (show h.IsListIter it a i from x) hk
  | false => exact Heap.IsTupleIter.at (show h.IsTupleIter it a i from x) hk
theorem sqi_obj {h : Heap} {it : Addr} {i : Nat} (x : IsSqI k h it a i) : ∃ o, h.get? it = some o ∧ ∀ v, o.data ≠ .cell v := by
  cases k with
  | true =>
    obtain ⟨o, e, _, d⟩ := (show h.IsListIter it a i from x)
    exact ⟨o, e, fun v q => by rw [d] at q; cases q⟩
  | false =>
    obtain ⟨o, e, _, d⟩ := (show h.IsTupleIter it a i from x)
    exact ⟨o, e, fun v q => by rw [d] at q; cases q⟩
end
def ItzU (K : PySem.W.Frag) (k1 k2 : Bool) (a b : Addr) : It where
  go := fun i H => ∃ (xs ys : List V) (x y : V), SqK k1 K H a xs ∧ SqK k2 K H b ys ∧ xs[i]? = some x ∧ ys[i]? = some y
  yld := fun i H v H' => ∃ T x y, v = .ref T ∧ H T = none ∧ H' = upd H T (.tup [x, y]) ∧ (∀ xs, SqK k1 K H a xs → xs[i]? = some x) ∧ ∀ ys, SqK k2 K H b ys → ys[i]? = some y
  stop := fun i H => ∃ xs ys : List V, SqK k1 K H a xs ∧ SqK k2 K H b ys ∧ i ≤ xs.length ∧ i ≤ ys.length ∧ (i = xs.length ∨ i = ys.length)
theorem sq_len {k : Bool} {K : PySem.W.Frag} : True := trivial
theorem turn_zipU {P : Program} {w : World} {K : PySem.W.Frag} {elts : List Expr} {kk : Nat} {tpos : Pos} {k1 k2 : Bool} {a b z TI TO i1 i2 : Addr} (S : ZipSep2 z TI TO i1 i2 [i1, a] [i2, b]) (ha : a ≠ i1) (hb : b ≠ i2) :
    Turn P w K (.Tuple elts kk tpos) (ItzU K k1 k2 a b) [z, TI, TO, i1, i2] z (fun i h => IsZip h z TI TO .none ∧ IsTupOf2 h TI (.ref i1) (.ref i2) ∧ (∃ x y, IsTupOf2 h TO x y) ∧ IsSqI k1 h i1 a i ∧ IsSqI k2 h i2 b i) where
  mem := by simp
  obj := fun i h ⟨hz, hTI, ⟨x, y, hTO⟩, h1, h2⟩ c hc => by
    simp only [List.mem_cons, List.not_mem_nil, or_false] at hc
    rcases hc with rfl | rfl | rfl | rfl | rfl
    · exact ⟨_, hz, fun v q => nomatch q⟩
    · exact ⟨_, hTI, fun v q => nomatch q⟩
    · exact ⟨_, hTO, fun v q => nomatch q⟩
    · exact sqi_obj h1
    · exact sqi_obj h2
  keep := fun i h h' ⟨hz, hTI, ⟨x, y, hTO⟩, h1, h2⟩ kp => ⟨kp z (by simp) _ hz, kp TI (by simp) _ hTI, ⟨x, y, kp TO (by simp) _ hTO⟩, sqi_at h1 fun o q => kp i1 (by simp) o q, sqi_at h2 fun o q => kp i2 (by simp) o q⟩
  item := by
    intro X hP hw hK hc i pins s σ H E I hf st hg
    subst hP hw hK
    obtain ⟨hz, hTI, ⟨x0, y0, hTO⟩, h1, h2⟩ := st
    obtain ⟨xs, ys, x, y, hqx, hqy, hx, hy⟩ := hg
    obtain ⟨its, rv, p, _⟩ := sqk_items I hqx
    obtain ⟨its2, rv2, p2, _⟩ := sqk_items I hqy
    obtain ⟨u, hu, ru⟩ := rv.get hx
    obtain ⟨u2, hu2, ru2⟩ := rv2.get hy
    have hh : X.A.in1.handled = none := I.ok.hd hc
    have zlt : z < s.heap.objs.size := Heap.lt_size hz
    have l1 : i < its.toArray.size := by simpa using (List.getElem?_eq_some_iff.mp hu).1
    have l2 : i < its2.toArray.size := by simpa using (List.getElem?_eq_some_iff.mp hu2).1
    refine wpAny_pyNext_zipD2_item S (sqk_draws hh i1 ha its.toArray) (sqk_draws hh i2 hb its2.toArray) hz hTI hTO ⟨h1, p⟩ ⟨h2, p2⟩ l1 l2 fun x1 x2 h' tk e1 e2 z' TO' h1' h2' hT hsz hk => ?_
    have e1' : its[i]? = some x1 := by simpa using e1
    have e2' : its2[i]? = some x2 := by simpa using e2
    rw [hu] at e1'; cases e1'
    rw [hu2] at e2'; cases e2'
    refine ⟨_, rfl, wpAny_letOwnedTupleGo_zip (s := { s with heap := h', toks := tk }) z' fun h'' z'' sb => ?_⟩
    have hT2 : h''.get? s.heap.objs.size = some { cls := .type "tuple", data := .seq #[u, u2] } := (sb.2 _ (Nat.ne_of_gt zlt)).trans hT
    have new : ObjOk X.prog X.w (upd H s.heap.objs.size (.tup [x, y])) h'' s.heap.objs.size (.tup [x, y]) := ⟨by show 2 ≤ sizeLine; decide, [u, u2], .cons ru (.cons ru2 .nil), ⟨_, hT2, rfl, _, rfl⟩⟩
    have kp : ∀ c o, c ∉ [z, TI, TO, i1, i2] → s.heap.get? c = some o → h''.get? c = some o := fun c o hb q => by
      simp only [List.mem_cons, List.not_mem_nil, or_false, not_or] at hb
      exact (sb.2 c hb.1).trans (hk c o hb.1 hb.2.2.1 hb.2.2.2.1 hb.2.2.2.2 q)
    have I1 : Inv X pins σ (upd H s.heap.objs.size (.tup [x, y])) { s with heap := h'', toks := tk } := I.turnedNew (t' := tk) (ch := [z, TI, TO, i1, i2]) kp hf (Nat.le_refl _) new
    refine ⟨.ref s.heap.objs.size, _, I1, rfl, ⟨_, x, y, rfl, I.hok.fresh (Nat.le_refl _), rfl, fun l hl => by rw [sqk_inj I hl hqx]; exact hx, fun l hl => by rw [sqk_inj I hl hqy]; exact hy⟩, ⟨z'', ?_, ⟨u, u2, ?_⟩, ?_, ?_⟩, fun c hcm => ?_⟩
    · exact (sb.2 _ S.TIz).trans (hk _ _ S.TIz S.TITO S.TIi1 S.TIi2 hTI)
    · exact (sb.2 _ S.TOz).trans TO'
    · exact sqi_at h1'.1 fun o q => (sb.2 _ (fun e => S.zf1 (by rw [← e]; exact List.mem_cons_self))).trans q
    · exact sqi_at h2'.1 fun o q => (sb.2 _ (fun e => S.zf2 (by rw [← e]; exact List.mem_cons_self))).trans q
    · have hlt : c < s.heap.objs.size := by
        simp only [List.mem_cons, List.not_mem_nil, or_false] at hcm
        rcases hcm with rfl | rfl | rfl | rfl | rfl
        · exact zlt
        · exact Heap.lt_size hTI
        · exact Heap.lt_size hTO
        · obtain ⟨o, e, _⟩ := sqi_obj h1; exact Heap.lt_size e
        · obtain ⟨o, e, _⟩ := sqi_obj h2; exact Heap.lt_size e
      rw [upd_ne (Nat.ne_of_lt hlt)]
      exact (hf c hcm).1
  done := by
    intro X hP hw hK hc i pins s σ H E I hf st hg
    subst hP hw hK
    obtain ⟨hz, hTI, ⟨x0, y0, hTO⟩, h1, h2⟩ := st
    obtain ⟨xs, ys, hqx, hqy, hi1, hi2, hend⟩ := hg
    obtain ⟨its, rv, p, _⟩ := sqk_items I hqx
    obtain ⟨its2, rv2, p2, _⟩ := sqk_items I hqy
    have l1 := rv.length
    have l2 := rv2.length
    have hh : X.A.in1.handled = none := I.ok.hd hc
    refine wpAny_pyNext_zipD2_end S (sqk_draws hh i1 ha its.toArray) (sqk_draws hh i2 hb its2.toArray) hz hTI hTO ⟨h1, p⟩ ⟨h2, p2⟩ (by simp; omega) (by simp; omega) (by simp; omega) fun h' tk hk => ⟨rfl, ?_⟩
    refine I.turnedL (t' := tk) (ch := [z, TI, TO, i1, i2]) (fun c o hb q => ?_) hf
    simp only [List.mem_cons, List.not_mem_nil, or_false, not_or] at hb
    exact hk c o hb.1 hb.2.2.1 hb.2.2.2.1 hb.2.2.2.2 q
  self := fun A i s Q E st h => wpAny_pyIter_zip st.1 h
theorem nm2 {x y z : Nat} (h1 : x ≠ y) (h2 : x ≠ z) : x ∉ [y, z] := fun h => by
  rcases List.mem_cons.mp h with h | h
  · exact h1 h
  · exact h2 (List.mem_singleton.mp h)
theorem zip_sep (n a b : Nat) (la : a < n) (lb : b < n) : ZipSep2 (n + 4) (n + 2) (n + 3) n (n + 1) [n, a] [n + 1, b] where
  TIz := show (n + 2 : Nat) ≠ n + 4 by omega
  TOz := show (n + 3 : Nat) ≠ n + 4 by omega
  TITO := show (n + 2 : Nat) ≠ n + 3 by omega
  TIi1 := show (n + 2 : Nat) ≠ n by omega
  mem1 := List.mem_cons_self
  zf1 := nm2 (by omega) (by omega)
  Tf1 := nm2 (by omega) (by omega)
  TIi2 := show (n + 2 : Nat) ≠ n + 1 by omega
  mem2 := List.mem_cons_self
  zf2 := nm2 (by omega) (by omega)
  Tf2 := nm2 (by omega) (by omega)
  sep1_2 := nm2 (by omega) (by omega)
  sep2_1 := nm2 (by omega) (by omega)
theorem zip_five {n c : Nat} (h : c ∈ [n + 4, n + 2, n + 3, n, n + 1]) : n ≤ c := by
  simp only [List.mem_cons, List.not_mem_nil, or_false] at h
  omega
def iZipU (K : PySem.W.Frag) (ta : TA) : TI := fun σ H R => ta σ H fun vs H1 => ∃ a b xs ys k1 k2, vs = [.ref a, .ref b] ∧ SqK k1 K H1 a xs ∧ SqK k2 K H1 b ys ∧ R (ItzU K k1 k2 a b) H1
theorem pi_zipU {X : Cx} {e e2 : Expr} {ta : TA} {p pos tpos : Pos} {elts : List Expr} {kk : Nat} (hg : Gl X "zip") (hm : X.mg "zip" = none) (ha : PA X [e, e2] ta)
    (hs : starEach [e, e2] X.env = (false, eval e X.env) :: starEach [e2] X.env := by rfl) (hpl : (backTo pos (starEach [e2] X.env)).any (·.1) = false := by rfl) : PI X (.Tuple elts kk tpos) (.Call (.Name "zip" p) [e, e2] [] pos) (iZipU X.K ta) := by
  refine ⟨fun pins s σ H R I h => Call_ (ld_blt I hg hm PyProof.Rows.boot_zip (PyProof.Rows.callWith_type1 (thn (ha.run pos pins s σ H _ I h) fun us s1 ⟨vs, H1, I1, r1, q1⟩ => ?_) hs hpl))⟩
  obtain ⟨a, b, xs, ys, k1, k2, ex, hqx, hqy, q⟩ := q1
  subst ex
  obtain ⟨rfl⟩ : us = [.ref a, .ref b] := by
    cases r1 with
    | cons r rr =>
      cases rr with
      | cons r' rr =>
        cases rr; cases r; cases r'; rfl
  obtain ⟨its, rv, p1, la⟩ := sqk_items I1 hqx
  obtain ⟨its2, rv2, p2, lb⟩ := sqk_items I1 hqy
  refine zip_begins2 (sqk_begins its.toArray) (sqk_begins its2.toArray) p1 p2 fun h' hz hTI hTO g1 g2 hsz hk => wpAny_pyIter_zip hz ?_
  have I2 : Inv X pins σ H1 { s1 with heap := h' } := I1.kept (t' := s1.toks) hk
  have S := zip_sep s1.heap.objs.size a b la lb
  have T := turn_zipU (P := X.prog) (w := X.w) (K := X.K) (elts := elts) (kk := kk) (tpos := tpos) (k1 := k1) (k2 := k2) S (Nat.ne_of_lt la) (Nat.ne_of_lt (Nat.lt_succ_of_lt lb))
  refine ⟨_, _, _, _, H1, rfl, I2, T, ⟨hz, hTI, ⟨_, _, hTO⟩, ?_, ?_⟩, fun c hcm => ?_, q⟩
  · cases k1 with
    | true => exact ⟨_, g1, rfl, rfl⟩
    | false => exact ⟨_, g1, rfl, rfl⟩
  · cases k2 with
    | true => exact ⟨_, g2, rfl, rfl⟩
    | false => exact ⟨_, g2, rfl, rfl⟩
  · have hle : s1.heap.objs.size ≤ c := zip_five hcm
    exact I1.fpOk hle (I1.hok.fresh hle)
/-! ### what is zipped, by data -/
def seqD : D → Option (List D)
  | .list ds => some ds
  | .tuple ds => some ds
  | _ => none
theorem at_seq {K : PySem.W.Frag} {F : Hp} {v : V} {d : D} {ds : List D} (h : At K F v d) (e : seqD d = some ds) : ∃ (k : Bool) (a : Addr) (vs : List V), v = .ref a ∧ SqK k K F a vs ∧ AtAll K F vs ds := by
  cases h with
  | lst h t => cases e; exact ⟨true, _, _, rfl, .inl (.inl h), t⟩
  | tup h t => cases e; exact ⟨false, _, _, rfl, h, t⟩
  | non => cases e
  | bl b => cases e
  | int i => cases e
  | str x => cases e
  | dic h t => cases e
  | scr h => cases e
theorem Ex.sqK {K : PySem.W.Frag} {H H' : Hp} {a : Addr} {xs : List V} {k : Bool} (e : Ex H H') (h : SqK k K H a xs) : SqK k K H' a xs := by
  cases k with
  | true => exact e.sqL (show SqL K H a xs from h)
  | false => exact e.sqT (show SqT K H a xs from h)
def zipD (xs ys : List D) : List D := (xs.zip ys).map fun p => .tuple [p.1, p.2]
theorem it_zip {K : PySem.W.Frag} {s s1 : S} {ta : TA} {d1 d2 : D} {xs ys : List D} (h : EvA K ta s [d1, d2] s1) (h1 : seqD d1 = some xs) (h2 : seqD d2 = some ys) : IterD K (iZipU K ta) s (zipD xs ys) s1 := fun σ H F fp e R r =>
  h σ H F fp e _ fun vs H1 F1 fp1 e1 st1 a1 => by
    match vs, a1 with
    | [v1, v2], .cons b1 (.cons b2 .nil) =>
      obtain ⟨k1, a, us, rfl, q1, t1⟩ := at_seq b1 h1
      obtain ⟨k2, b, ws, rfl, q2, t2⟩ := at_seq b2 h2
      have l1 := t1.length
      have l2 := t2.length
      refine ⟨a, b, us, ws, k1, k2, rfl, e1.ex.sqK q1, e1.ex.sqK q2, r _ H1 F1 fp1 e1 st1 fun F' H' i hF hH => ⟨fun d hd => ?_, fun hi => ?_⟩⟩
      · unfold zipD at hd
        obtain ⟨p, hp, rfl⟩ := map_at hd
        obtain ⟨p1, p2⟩ := List.getElem?_zip_eq_some.mp hp
        obtain ⟨u, hu, hau⟩ := t1.get p1
        obtain ⟨w, hw, haw⟩ := t2.get p2
        refine ⟨⟨us, ws, u, w, hH.sqK (hF.sqK q1), hH.sqK (hF.sqK q2), hu, hw⟩, fun x H2 hy => ?_⟩
        obtain ⟨T, x', y', rfl, hT, rfl, f1, f2⟩ := hy
        have ex := f1 us (hH.sqK (hF.sqK q1))
        have ey := f2 ws (hH.sqK (hF.sqK q2))
        rw [hu] at ex; cases ex
        rw [hw] at ey; cases ey
        have g := Grow.laid (o := .tup [u, w]) hH hT
        exact ⟨_, g, .tup (.inl (.inl upd_same)) ((AtAll.cons (hau.ex hF) (.cons (haw.ex hF) .nil)).ex g.f)⟩
      · unfold zipD at hi
        rw [List.length_map, List.length_zip] at hi
        exact ⟨us, ws, hH.sqK (hF.sqK q1), hH.sqK (hF.sqK q2), by omega, by omega, by omega⟩
end DL

namespace SrtO
open PySem PyProof.Rows Srt
section
variable {prog : Program} {w : World} {A : Around} {E : Value → Shared → Prop} {s : Shared}
/-- sorted of a list or a tuple: the new list's place is told by no more than that it is new -/
theorem sorted_any {t : Addr} {T : String} {ot : Obj} {vs : List Value} {n : Nat} {ltv : Value → Value → Bool} {Q : Value → Shared → Prop} (O : Swo ltv) (hT : T = "list" ∨ T = "tuple") (ht : s.heap.get? t = some ot) (hc : ot.cls = .type T) (hd : ot.data = .seq vs.toArray n) (hz : vs.length ≤ sizeLine)
    (hS : 2 ≤ vs.length → ∀ (h1 : Heap) (a : Addr), h1.get? a = some (seqObj "list" vs.toArray 0) → (∀ b o, s.heap.get? b = some o → b ≠ a ∧ h1.get? b = some o) → SortableO prog w A.in1.in1 { s with heap := h1 } a vs ltv)
    (h : ∀ (out : List Value) (h2 : Heap) (a e : Nat), Srtd ltv out → Stb ltv out vs → s.heap.get? a = none → (∀ b o, s.heap.get? b = some o → h2.get? b = some o) → h2.get? a = some (seqObj "list" out.toArray e) → Q (.ref a) { s with heap := h2 }) :
    wpAny (model prog w) A (call (.builtin "sorted") [.ref t]) Q E s := by
  refine Calls.call_function_entry kind_sorted plain_sorted entry_sorted (args_sorted1 _) ?_
  show wpAny _ _ (checkCount "sorted" 1 1 _ >>= _) _ _ _
  refine wpAny_bind (wpAny_pure (wpAny_bind (wpAny_collect_seq t hT ht hc hd (fun g kp => ?_) (by rw [List.size_toArray]; exact hz))))
  have hoL : (g.push (seqObj "list" vs.toArray 0)).get? g.objs.size = some (seqObj "list" vs.toArray 0) := Heap.get?_push_size _ rfl
  have old : ∀ b o, s.heap.get? b = some o → b < g.objs.size := fun b o q => Heap.lt_size (kp b o q)
  have keep : ∀ b o, s.heap.get? b = some o → b ≠ g.objs.size ∧ (g.push (seqObj "list" vs.toArray 0)).get? b = some o := fun b o q => ⟨Nat.ne_of_lt (old b o q), Heap.get?_push_of_some _ (kp b o q)⟩
  refine wpAny_bind (wpAny_newList ?_ hz)
  refine wpAny_bind (wpAny_holding (wpAny_call_entry (s := { s with heap := g.push (seqObj "list" vs.toArray 0) }) slot_list_sort ⟨_, hoL, rfl⟩ entry_list_sort (list_sort_ord O hoL hz (fun h2 => hS h2 _ _ hoL keep) fun out hs hb => ⟨_, rfl, ?_⟩) (args_list_sort _)))
  obtain ⟨e, he⟩ := sortedHeap_at (out := out.toArray) hoL
  have big : s.heap.get? g.objs.size = none := by
    cases q : s.heap.get? g.objs.size with
    | none => rfl
    | some o => exact absurd (old _ o q) (Nat.lt_irrefl _)
  refine wpAny_pure ⟨_, rfl, h out _ _ e hs hb big (fun b o q => ?_) he⟩
  have := keep b o q
  rw [sortedHeap_old this.1 (by rw [Heap.size_push]; exact Nat.lt_succ_of_lt (old b o q))]
  exact this.2
end
end SrtO
namespace DL
open PySem PySem.Spec PyProof.Rows L2
def sortOkV : List D → Prop
  | [.list ds] => (intsOf ds).isSome = true
  | [.tuple ds] => (intsOf ds).isSome = true
  | _ => False
def sortLV : List D → List D
  | [.list ds] => (sortI ((intsOf ds).getD [])).map PyData.int
  | [.tuple ds] => (sortI ((intsOf ds).getD [])).map PyData.int
  | _ => []
section
variable {X : Cx}
theorem sort_sq {k : Bool} {pins : List (Addr × Obj)} {s : Shared} {σ : L2.St} {H : Hp} {a : Addr} {ns : List Int} {Q : VK} (I : Inv X pins σ H s) (hs : SqK k X.K H a (ns.map V.int))
    (q : ∀ (ns' : List Int) (p : Addr), ns'.Perm ns → ns'.Pairwise (· ≤ ·) → H p = none → Q (.ref p) (upd H p (.lst (ns'.map V.int)))) : wpAny (model X.prog X.w) X.A (call (.builtin "sorted") [.ref a]) (EP X pins σ Q) X.xe s := by
  have base : ∃ (its : List Value) (T : String) (ot : Obj) (n : Nat), Vals (ns.map V.int) its ∧ (T = "list" ∨ T = "tuple") ∧ s.heap.get? a = some ot ∧ ot.cls = .type T ∧ ot.data = .seq its.toArray n ∧ its.length ≤ sizeLine := by
    cases k with
    | true =>
      obtain ⟨its, rv, hl, hz⟩ := I.list (show SqL X.K H a _ from hs)
      obtain ⟨o, n, h1, h2, _, h3⟩ := hl
      exact ⟨its, "list", o, n, rv, .inl rfl, h1, h2, h3, by rw [← rv.length]; exact hz⟩
    | false =>
      obtain ⟨its, rv, hl, hz⟩ := I.tuple (show SqT X.K H a _ from hs)
      obtain ⟨o, h1, h2, n, h3⟩ := hl
      exact ⟨its, "tuple", o, n, rv, .inr rfl, h1, h2, h3, by rw [← rv.length]; exact hz⟩
  obtain ⟨its, T, ot, n, rv, hT, h1, h2, h3, hz⟩ := base
  have hi := rv.ints
  refine SrtO.sorted_any SrtO.swo_int hT h1 h2 h3 hz (fun h2 h₁ a' _ _ => SrtO.ints_sortable hi h2) fun out g p e s1 s2 hp kp hg => ?_
  obtain ⟨k1, k2, k3⟩ := SrtO.ints_out hi s1 s2
  have hn : H p = none := I.hok.gone hp
  have hlen : ((out.map SrtO.iv).map V.int).length ≤ sizeLine := by
    rw [List.length_map, k2.length_eq, ← List.length_map (f := V.int), rv.length]
    exact hz
  exact ⟨.ref p, upd H p (.lst ((out.map SrtO.iv).map V.int)), I.laidN (t' := s.toks) kp hp hn ⟨hlen, out, e, vals_of_ints k1, hg⟩, rfl, q _ _ k2 k3 hn⟩
theorem call_sortV : CallR X (.builtin "sorted") (rDl X.K sortOkV sortLV) := by
  intro pins s σ H xs us Q I r ⟨F, ds, e, ha, ok, k⟩
  match ds, ok, ha with
  | [.list ds], o2, .cons h1 .nil =>
    obtain ⟨p, vs, rfl, h2, h3⟩ := h1.lst e
    obtain ⟨ns, hn⟩ := Option.isSome_iff_exists.mp o2
    have ee := intsOf_eq hn
    subst ee
    rw [h3.ints] at h2
    rw [Vals.ref1 r]
    refine sort_sq (k := true) I (show SqL X.K H p _ from .inl (.inl h2)) fun ns' q hp hs hq => ?_
    have e1 : ns' = sortI ns := sorted_unique (hp.trans (sortI_perm ns).symm) hs (sortI_sorted ns)
    have : sortLV [.list (ns.map PyData.int)] = (sortI ns).map PyData.int := by simp only [sortLV, hn, Option.getD_some]
    rw [this] at k
    subst e1
    exact k q _ hq AtAll.of_ints
  | [.tuple ds], o2, .cons h1 .nil =>
    obtain ⟨p, vs, rfl, h2, _, h3⟩ := h1.tup e
    obtain ⟨ns, hn⟩ := Option.isSome_iff_exists.mp o2
    have ee := intsOf_eq hn
    subst ee
    rw [h3.ints] at h2
    rw [Vals.ref1 r]
    refine sort_sq (k := false) I (show SqT X.K H p _ from h2) fun ns' q hp hs hq => ?_
    have e1 : ns' = sortI ns := sorted_unique (hp.trans (sortI_perm ns).symm) hs (sortI_sorted ns)
    have : sortLV [.tuple (ns.map PyData.int)] = (sortI ns).map PyData.int := by simp only [sortLV, hn, Option.getD_some]
    rw [this] at k
    subst e1
    exact k q _ hq AtAll.of_ints
end
section
variable {K : PySem.W.Frag} {s s1 : S} {te : TE} {ns : List Int}
theorem ev_sortL (h : Ev K te s (.list (ns.map PyData.int)) s1) : Ev K (tCB (rDl K sortOkV sortLV) (tCons te tNil)) s (.list ((sortI ns).map PyData.int)) s1 := by
  refine (ev_cl (ea_cons h ea_nil) (by show (intsOf (ns.map PyData.int)).isSome = true; rw [intsOf_map]; rfl)).to ?_
  simp [sortLV, intsOf_map]
theorem ev_sortT (h : Ev K te s (.tuple (ns.map PyData.int)) s1) : Ev K (tCB (rDl K sortOkV sortLV) (tCons te tNil)) s (.list ((sortI ns).map PyData.int)) s1 := by
  refine (ev_cl (ea_cons h ea_nil) (by show (intsOf (ns.map PyData.int)).isSome = true; rw [intsOf_map]; rfl)).to ?_
  simp [sortLV, intsOf_map]
end
end DL
namespace DL
open PySem PySem.Spec PyProof.Rows L2
/-! ### a tuple some times over -/
theorem rep_len {α : Type} (n : Nat) (l : List α) : (List.replicate n l).flatten.length = n * l.length := PyProof.Rows.lm_len_rep_flat ..
theorem mul_small {n : Nat} {k : Int} (h1 : 2 ≤ k) (h : n * k.toNat ≤ 1000000) : ((n : Nat) : Int) * k ≤ 1000000 := by
  have e : ((k.toNat : Nat) : Int) = k := by omega
  rw [← e, ← Int.natCast_mul]
  omega
theorem tup_times {X : Cx} {pins : List (Addr × Obj)} {s : Shared} {σ : L2.St} {H : Hp} {l : Addr} {k : Int} {t : Tok} {xs : List V} {Q : VK} (I : Inv X pins σ H s) (hT : SqT X.K H l xs) (hne : xs ≠ []) (h1 : 2 ≤ k) (hz : xs.length * k.toNat ≤ 1000000)
    (q : ∀ p, H p = none → Q (.ref p) (upd H p (.tup (List.replicate k.toNat xs).flatten))) : wpAny (model X.prog X.w) X.A (binaryOp .Mult (.ref l) (.int k t)) (EP X pins σ Q) X.xe s := by
  obtain ⟨its, r, ⟨⟨cls, dd, data, sl⟩, ho, hc, n, hd⟩, hs⟩ := I.tuple hT
  obtain rfl : cls = .type "tuple" := hc
  obtain rfl : data = .seq its.toArray n := hd
  have hle : xs.length = its.length := r.length
  have hpos : 0 < its.length := by rw [← hle]; exact List.length_pos_iff.mpr hne
  have hm : ((its.toArray.size : Nat) : Int) * k ≤ 1000000 := by rw [List.size_toArray]; exact mul_small h1 (by rw [← hle]; exact hz)
  have e0 : its.toArray.isEmpty = false := by cases its with
    | nil => exact absurd hpos (by simp)
    | cons a b => rfl
  have flat : (List.replicate k.toNat its).flatten.length ≤ sizeLine := by rw [rep_len, ← hle, Nat.mul_comm]; exact le_size (by omega)
  have hk : k ≤ 1000000 := by
    have a1 : 1 * k.toNat ≤ xs.length * k.toNat := Nat.mul_le_mul_right _ (by omega)
    omega
  have c0 : (decide (k < -(2 ^ 63)) || decide (k ≥ 2 ^ 63)) = false := by simp only [Bool.or_eq_false_iff, decide_eq_false_iff_not]; omega
  have c1 : (its.toArray.isEmpty || k == 1) = false := by simp only [e0, Bool.false_or, beq_eq_false_iff_ne]; omega
  have c2 : (decide (k ≤ 0) || its.toArray.isEmpty) = false := by simp only [e0, Bool.or_false, decide_eq_false_iff_not]; omega
  have c4 : Builtin.Tuple.tupleTooMany (((its.toArray.size : Nat) : Int) * k) = false := by
    unfold Builtin.Tuple.tupleTooMany
    rw [sizeLine_eq]
    simp only [decide_eq_false_iff_not]; omega
  have fin : ∀ s' : Shared, s' = { s with heap := s.heap.push { cls := .type "tuple", data := .seq (List.replicate k.toNat its).flatten.toArray } } → EP X pins σ Q (.ref s.heap.objs.size) s' := fun s' hs' => by
    subst hs'
    refine ⟨.ref s.heap.objs.size, _, I.laid (t' := s.toks) (o := .tup (List.replicate k.toNat xs).flatten) (fun b ob e => Heap.get?_push_of_some _ e) (Nat.le_refl _) ⟨?_, _, r.rep k.toNat, IsTup.new _ _⟩, rfl, q _ (I.hok.fresh (Nat.le_refl _))⟩
    rw [rep_len, hle, ← rep_len]
    exact flat
  have meets := tuple_mulW l its.toArray n dd sl k t c0 c1 c2 (by omega) c4 (by rw [size_rep, List.size_toArray]; exact flat)
  refine wpAny_binaryOp_repeat_ref (T := "tuple") (U := "int") (by decide) ⟨_, ho, rfl⟩ (fun s' => typeIs_int s' k t) noFill_tuple_mul F.fills_int_mul F.slot_int_rmul repeat_tuple F.slot_int_index.lookup ?_
  refine call_meets F.slot_int_rmul (typeIs_int s k t) F.entry_int_rmul (F.args_int_rmul_2 _ _) (int_rmul_tuple k t l its.toArray n dd sl) ⟨ho, rfl, ⟨_, ho, rfl⟩, ?_⟩
  refine call_meets F.slot_tuple_mul ⟨_, ho, rfl⟩ F.entry_tuple_mul (F.args_tuple_mul_2 _ _) meets ⟨ho, ?_⟩
  rw [size_rep]
  exact fin _ rfl
def mulOkV : D → D → Prop
  | .int a, .int b => CMul a b
  | .list a, .int k => -(2 ^ 63) ≤ k ∧ k < 2 ^ 63 ∧ a.length * k.toNat ≤ sizeLine
  | .tuple a, .int k => a ≠ [] ∧ 2 ≤ k ∧ a.length * k.toNat ≤ 1000000
  | _, _ => False
theorem op_mulV {X : Cx} : OpR X (binaryOp .Mult) (rD2 X.K mulOkV mulD) := by
  intro pins s σ H x y v u Q I rx ry ⟨F, dx, dy, e, hx, hy, ok, k⟩
  match dx, dy, ok with
  | .int i, .int j, ok => exact op_mulU pins s σ H x y v u Q I rx ry ⟨F, .int i, .int j, e, hx, hy, ok, k⟩
  | .list a, .int j, ok => exact op_mulU pins s σ H x y v u Q I rx ry ⟨F, .list a, .int j, e, hx, hy, ok, k⟩
  | .tuple a, .int j, ⟨o0, o1, o2⟩ =>
    obtain ⟨p, vs, rfl, h1, h1', h2⟩ := hx.tup e
    have q2 := hy.int
    subst q2
    cases rx
    obtain ⟨t, rfl⟩ := ry
    refine tup_times I h1 (fun z => o0 (by cases h2 with | nil => rfl | cons _ _ => cases z)) o1 (by rw [h2.length]; exact o2) fun r hr => ?_
    have g := Grow.laid (o := .tup (List.replicate j.toNat vs).flatten) e hr
    exact k _ _ _ g (.tup (.inl (.inl upd_same)) ((h2.flat _).ex g.f))
section
variable {K : PySem.W.Frag} {E : XK} {s s1 s2 : S} {ta tb te : TE} {a b : Int} {ds : List D} {ns : List Int} {i : Nat} {ov ov' : Option V}
theorem ev_mulVI (ha : Ev K ta s (.int a) s1) (hb : Ev K tb s1 (.int b) s2) (h : CMul a b) : Ev K (tOp (rD2 K mulOkV mulD) ta tb) s (.int (a * b)) s2 := ev_op ha hb h
theorem ev_mulVT (ha : Ev K ta s (.tuple ds) s1) (hb : Ev K tb s1 (.int b) s2) (h : ds ≠ [] ∧ 2 ≤ b ∧ ds.length * b.toNat ≤ 1000000) : Ev K (tOp (rD2 K mulOkV mulD) ta tb) s (.tuple (List.replicate b.toNat ds).flatten) s2 := ev_op ha hb h
theorem ev_mulVL (ha : Ev K ta s (.list ds) s1) (hb : Ev K tb s1 (.int b) s2) (h : -(2 ^ 63) ≤ b ∧ b < 2 ^ 63 ∧ ds.length * b.toNat ≤ sizeLine) : Ev K (tOp (rD2 K mulOkV mulD) ta tb) s (.list (List.replicate b.toNat ds).flatten) s2 := ev_op ha hb h
/-! ### an owned list of ints: min, index -/
theorem ev_minO (hi : s.s[i]? = some (.res (lstR K ov (ns.map PyData.int)))) (hn : ns ≠ []) : Ev K (tCB (rDn K mmOk minD) (tCons (tVar i) tNil)) s (.int (lmin ns)) s := by
  refine (ev_cb1 hi ⟨by simpa using hn, by rw [intsOf_map]; rfl⟩).to ?_
  show PyData.int (lmin ((intsOf (ns.map PyData.int)).getD [])) = _
  rw [intsOf_map]; rfl
theorem ints_shs {n : Nat} (ns : List Int) : Shs n (ns.map PyData.int) := shs_of fun d h => by
  obtain ⟨x, _, rfl⟩ := List.mem_map.mp h
  exact sh_int
theorem ev_indexO {n : Int} {j : Nat} (hi : s.s[i]? = some (.res (lstR K ov (ns.map PyData.int)))) (he : Ev K te s (.int n) s1) (hi1 : s1.s[i]? = some (.res (lstR K ov' (ns.map PyData.int)))) (hj : ns[j]? = some n) (hf : ∀ m, m < j → ns[m]? ≠ some n) :
    Ev K (tBM K "list" (rIndexD K) (tVar i) (tCons te tNil)) s (.int (j : Nat)) s1 := fun σ H F fp e Q q => by
  obtain ⟨a, vs, h1, _, h4, h5⟩ := e.own hi
  refine ⟨.ref a, h1, .inl ⟨rfl, _, .inl (.inl h4)⟩, he σ H F fp e _ fun v H1 F1 fp1 e1 st1 a1 => ?_⟩
  obtain ⟨a', vs', h1', _, h4', h5'⟩ := e1.own hi1
  rw [h1] at h1'
  cases h1'
  cases a1
  refine ⟨a, .int n, .int n, ns.map PyData.int, j, .int n, rfl, rfl, .lst (.inl (.inl h4')) (h5'.dp e1.ex (flats_of_canLay (ints_shs (n := 0) ns).1)), .int n, (sh_lst (n := 0) (ints_shs ns)).ok, sh_int.ok (n := 0), by rw [List.getElem?_map, hj]; rfl, by simp [PyData.eqv], fun m z hm hz => ?_, q _ H1 F1 fp1 e1 st1 (.int _)⟩
  obtain ⟨c, hc, rfl⟩ := map_at hz
  have : c ≠ n := fun w => hf m hm (by rw [hc, w])
  simpa [PyData.eqv] using this
end
end DL
namespace DL
open PySem PySem.Spec PyProof.Rows L2
/-! ### a sequence walked: a list or a tuple -/
def iSeq (K : PySem.W.Frag) (tl : TE) : TI := fun σ H R => tl σ H fun x H1 => ∃ (k : Bool) (a : Addr) (xs : List V), x = .ref a ∧ SqK k K H1 a xs ∧ R (if k = true then Itl K a else Itt K a) H1
theorem pi_seqU {X : Cx} {tg l : Expr} {tl : TE} (hl : PE X l tl) : PI X tg l (iSeq X.K tl) := by
  refine ⟨fun pins s σ H R I h => thn (hl.run pins s σ H _ I h) fun v s1 ⟨x, H1, I1, r1, k, a, xs, ex, hq, q⟩ => ?_⟩
  subst ex
  cases r1
  have fp : ∀ b ∈ [s1.heap.objs.size], FpOk X pins H1 b := fun b hb => by
    rw [List.mem_singleton.mp hb]
    exact I1.fpOk (Nat.le_refl _) (I1.hok.fresh (Nat.le_refl _))
  have I2 : ∀ o : Obj, Inv X pins σ H1 { s1 with heap := s1.heap.push o } := fun o => I1.kept (t' := s1.toks) fun b o e => Heap.get?_push_of_some _ e
  cases k with
  | true =>
    obtain ⟨its, rv, p, hz⟩ := I1.list (show SqL X.K H1 a xs from hq)
    exact wpAny_pyIter_list p.isList ⟨s1.heap.objs.size, _, _, _, H1, rfl, I2 _, turn_list a _, ⟨_, Heap.get?_push_size _ rfl, rfl, rfl⟩, fp, q⟩
  | false =>
    obtain ⟨its, rv, p, hz⟩ := I1.tuple (show SqT X.K H1 a xs from hq)
    exact wpAny_pyIter_tuple (show s1.heap.IsTuple a its.toArray from p) ⟨s1.heap.objs.size, _, _, _, H1, rfl, I2 _, turn_tuple a _, ⟨_, Heap.get?_push_size _ rfl, rfl, rfl⟩, fp, q⟩
theorem it_seq {K : PySem.W.Frag} {s s1 : S} {tl : TE} {d : D} {ds : List D} (h : Ev K tl s d s1) (hd : seqD d = some ds) : IterD K (iSeq K tl) s ds s1 := fun σ H F fp e R r =>
  h σ H F fp e _ fun v H1 F1 fp1 e1 st1 a1 => by
    obtain ⟨k, a, vs, rfl, hq, hv⟩ := at_seq a1 hd
    refine ⟨k, a, vs, rfl, e1.ex.sqK hq, r _ H1 F1 fp1 e1 st1 fun F' H' i hF hH => ⟨fun d hd => ?_, fun hi => ?_⟩⟩
    · obtain ⟨x, hx, _⟩ := hv.get hd
      have hq' := hH.sqK (hF.sqK hq)
      have fin : ∀ y : V, vs[i]? = some y → ∃ F2, Grow F' H' F2 H' ∧ At K F2 y d := fun y hy => by
        obtain ⟨d', hd', had⟩ := hv.getV hy
        rw [hd] at hd'
        cases hd'
        exact ⟨F', Grow.refl hH, had.ex hF⟩
      cases k with
      | true =>
        refine ⟨⟨vs, x, hq', hx⟩, fun y H2 hy => ?_⟩
        obtain ⟨rfl, hy⟩ := hy
        exact fin y (hy vs hq')
      | false =>
        refine ⟨⟨vs, x, hq', hx⟩, fun y H2 hy => ?_⟩
        obtain ⟨rfl, hy⟩ := hy
        exact fin y (hy vs hq')
    · have hq' := hH.sqK (hF.sqK hq)
      have hl : vs.length ≤ i := by rw [hv.length]; exact Nat.le_of_eq hi.symm
      cases k with
      | true => exact ⟨vs, hq', hl⟩
      | false => exact ⟨vs, hq', hl⟩
end DL
namespace DL
open PySem PySem.Spec PyProof.Rows L2
section
variable {K : PySem.W.Frag} {E : XK} {s s1 s2 : S} {ta tb te : TE} {bs : List Bool} {ds : List D}
theorem ev_allL (h : Ev K te s (.list (bs.map PyData.bool)) s1) : Ev K (tCB (rDn K allOk allD) (tCons te tNil)) s (.bool (bs.all id)) s1 := by
  refine (ev_cb (ea_cons h ea_nil) (by show (boolsOf (bs.map PyData.bool)).isSome = true; rw [boolsOf_map]; rfl)).to ?_
  show PyData.bool (((boolsOf (bs.map PyData.bool)).getD []).all id) = _
  rw [boolsOf_map]; rfl
theorem ev_anyL (h : Ev K te s (.list (bs.map PyData.bool)) s1) : Ev K (tCB (rDn K allOk anyD) (tCons te tNil)) s (.bool (bs.any id)) s1 := by
  refine (ev_cb (ea_cons h ea_nil) (by show (boolsOf (bs.map PyData.bool)).isSome = true; rw [boolsOf_map]; rfl)).to ?_
  show PyData.bool (((boolsOf (bs.map PyData.bool)).getD []).any id) = _
  rw [boolsOf_map]; rfl
/-- a comprehension over data, no condition, nothing changed -/
theorem ev_lcM {wi : TI} {g : TG} {vs : List Nat} (y : D → D) (hw : IterD K wi s ds s1) (hz : ds.length ≤ sizeLine) (hr : NoRes s1 vs)
    (hs : ∀ d, d ∈ ds → ∃ s2, TgV K vs g (s1.wipe vs) d s2 ∧ SLe (s2.wipe vs) (s1.wipe vs) ∧ Ev K te s2 (y d) s2) : Ev K (tLc wi g tYes te vs) s (.list (ds.map y)) s1 := by
  refine (ev_lc (fun _ => true) y hw hz hr fun d hd => ?_).to (by rw [List.filter_eq_self.mpr (fun _ _ => rfl)])
  obtain ⟨s2, h1, h2, h3⟩ := hs d hd
  exact ⟨s2, h1, h2, et_yes, fun _ => h3⟩
end
theorem noRes_nil {s : S} : NoRes s [] := fun i x h => by simp at h
theorem noRes_cons {s : S} {j : Nat} {vs : List Nat} (h : ∀ x, s.s[j]? = some x → x = .unk ∨ ∃ d, x = .dat d) (t : NoRes s vs) : NoRes s (j :: vs) := fun i x hi hx => by
  rcases List.mem_cons.mp hi with rfl | hi
  · exact h x hx
  · exact t i x hi hx
theorem noRes_u {s : S} {j : Nat} {vs : List Nat} (h : s.s[j]? = some .unk) (t : NoRes s vs) : NoRes s (j :: vs) := noRes_cons (fun x hx => .inl (by rw [h] at hx; exact (Option.some.inj hx).symm)) t
theorem noRes_d {s : S} {j : Nat} {d : D} {vs : List Nat} (h : s.s[j]? = some (.dat d)) (t : NoRes s vs) : NoRes s (j :: vs) := noRes_cons (fun x hx => .inr ⟨d, by rw [h] at hx; exact (Option.some.inj hx).symm⟩) t
/-- what comes back behind a comprehension, slot by slot -/
inductive Bk (vs : List Nat) : Nat → List Sl → List Sl → List Sl → Prop
  | nil {i : Nat} : Bk vs i [] [] []
  | keep {i : Nat} {x y : Sl} {l m k : List Sl} (h : i ∉ vs) : Bk vs (i + 1) l m k → Bk vs i (x :: l) (y :: m) (y :: k)
  | unk {i : Nat} {x y : Sl} {l m k : List Sl} : Bk vs (i + 1) l m k → Bk vs i (x :: l) (y :: m) (.unk :: k)
  | own {i : Nat} {d : D} {y : Sl} {l m k : List Sl} (h : i ∈ vs) : Bk vs (i + 1) l m k → Bk vs i (.dat d :: l) (y :: m) (.dat d :: k)
theorem Bk.len {vs : List Nat} : ∀ {i : Nat} {l m k : List Sl}, Bk vs i l m k → k.length = l.length
  | _, _, _, _, .nil => rfl
  | _, _, _, _, .keep _ h => by simp [Bk.len h]
  | _, _, _, _, .unk h => by simp [Bk.len h]
  | _, _, _, _, .own _ h => by simp [Bk.len h]
theorem Bk.at {vs : List Nat} : ∀ {i : Nat} {l m k : List Sl}, Bk vs i l m k → ∀ (j : Nat) (x : Sl), k[j]? = some x → (i + j ∉ vs ∧ m[j]? = some x) ∨ x = .unk ∨ (i + j ∈ vs ∧ l[j]? = some x ∧ ∃ d, x = .dat d)
  | _, _, _, _, .nil, j, x, h => by simp at h
  | _, _, _, _, .keep h1 t, 0, x, h => by simp at h; subst h; exact .inl ⟨by simpa using h1, by simp⟩
  | _, _, _, _, .unk t, 0, x, h => by simp at h; exact .inr (.inl h.symm)
  | _, _, _, _, .own h1 t, 0, x, h => by simp at h; subst h; exact .inr (.inr ⟨by simpa using h1, by simp, _, rfl⟩)
  | i, _, _, _, .keep _ t, j + 1, x, h => by
    have := Bk.at t j x (by simpa using h)
    rw [show i + 1 + j = i + (j + 1) by omega] at this
    simpa using this
  | i, _, _, _, .unk t, j + 1, x, h => by
    have := Bk.at t j x (by simpa using h)
    rw [show i + 1 + j = i + (j + 1) by omega] at this
    simpa using this
  | i, _, _, _, .own _ t, j + 1, x, h => by
    have := Bk.at t j x (by simpa using h)
    rw [show i + 1 + j = i + (j + 1) by omega] at this
    simpa using this
theorem Bk.back {vs : List Nat} {s1 sn s' : S} (h : Bk vs 0 s1.s sn.s s'.s) (hg : s'.g = sn.g) : Back vs s1 sn s' := ⟨h.len, fun i x q => by
  have := h.at i x q
  rw [Nat.zero_add] at this
  exact this, hg⟩
end DL
namespace DL
open PySem PySem.Spec PyProof.Rows L2
section
variable {K : PySem.W.Frag} {E : XK} {s s0 s1 : S} {t : TS} {g : TG} {wi : TI} {ds : List D} {o : Out}
/-- for x in xs: .. where p x decides whether the body goes on or ends the loop -/
theorem run_forAll (p : D → Bool) (hw : IterD K wi s ds s1) (h0 : SLe s1 s0) (hp : ∀ d ∈ ds, p d = false) (hs : ∀ d, d ∈ ds → p d = false → ∃ s2, Tg K g s0 d s2 ∧ Run K E t s2 (.nx s0)) : Run K E (tFor wi g t) s (.nx s0) :=
  run_for (fun _ => s0) hw h0 fun i d hd => hs d (List.mem_of_getElem? hd) (hp d (List.mem_of_getElem? hd))
theorem run_forAny (p : D → Bool) (hw : IterD K wi s ds s1) (h0 : SLe s1 s0) (hp : ∃ d ∈ ds, p d = true) (hs : ∀ d, d ∈ ds → p d = false → ∃ s2, Tg K g s0 d s2 ∧ Run K E t s2 (.nx s0))
    (hr : ∀ d, d ∈ ds → p d = true → ∃ s2 o', Tg K g s0 d s2 ∧ Run K E t s2 o' ∧ o'.ends = true ∧ o = o'.out) : Run K E (tFor wi g t) s o := by
  have hl : ds.findIdx p < ds.length := List.findIdx_lt_length.mpr hp
  refine run_forG (fun _ => s0) (ds.findIdx p) hw h0 (Nat.le_of_lt hl) (fun i d hi hd => ?_) (.inr ?_)
  · have hm := List.mem_of_getElem? hd
    refine hs d hm ?_
    have := List.not_of_lt_findIdx hi
    obtain ⟨hl, he⟩ := List.getElem?_eq_some_iff.mp hd
    rw [he] at this
    simpa using this
  · have hp' : p ds[ds.findIdx p] = true := List.findIdx_getElem
    obtain ⟨s2, o', h1, h2, h3, h4⟩ := hr _ (List.getElem_mem hl) hp'
    exact ⟨_, s2, o', List.getElem?_eq_getElem hl, h1, h2, h3, h4⟩
end
end DL
namespace DL
open PySem PySem.Spec PyProof.Rows L2
section
variable {K : PySem.W.Frag} {s s1 s2 : S} {ta tb te : TE} {ns : List Int} {m n : Int}
theorem ev_lenTI (h : Ev K te s (.tuple (ns.map PyData.int)) s1) : Ev K (tCB (rDn K lenOk lenD) (tCons te tNil)) s (.int ns.length) s1 := (ev_lenT (ea_cons h ea_nil)).to (by rw [List.length_map])
theorem ev_lenLI (h : Ev K te s (.list (ns.map PyData.int)) s1) : Ev K (tCB (rDn K lenOk lenD) (tCons te tNil)) s (.int ns.length) s1 := (ev_lenL (ea_cons h ea_nil)).to (by rw [List.length_map])
theorem it_r1 (h : Ev K te s (.int n) s1) (hn : -(2 ^ 62) ≤ n ∧ n < 2 ^ 62) : IterD K (iRng1 (tCons te tNil)) s (upTo 0 n.toNat) s1 := it_rng1 (ea_cons h ea_nil) hn
theorem it_r2 (h : Ev K ta s (.int m) s1) (h2 : Ev K tb s1 (.int n) s2) (hn : -(2 ^ 62) ≤ m ∧ m < 2 ^ 62 ∧ -(2 ^ 62) ≤ n ∧ n < 2 ^ 62) : IterD K (iRng2 (tCons ta (tCons tb tNil))) s (upTo m (n - m).toNat) s2 := it_rng2 (ea_cons h (ea_cons h2 ea_nil)) hn
end
end DL
namespace DL
open PySem PySem.Spec PyProof.Rows L2
section
variable {K : PySem.W.Frag} {E : XK} {s s1 : S} {x1 x2 x3 x4 : Sl} {ta : TA}
theorem Own.growH {H0 H F : Hp} {fp0 fp : Fp} {P : Addr → Prop} {p : Addr} {o : HO} (w : Own H0 fp0 H F fp P) (hp : H p = Option.none) : Own H0 fp0 (upd H p o) F fp P := ⟨w.nf, w.dj, fun b h => (w.th b h).ex (Ex.new hp), w.new⟩
/-- a, b, c, d = .., by a tuple: what is new may be changed later -/
theorem run_tupX4 {i1 i2 i3 i4 : Nat} (h : EvX K ta s [x1, x2, x3, x4] s1) : Run K E (tAsg (tTup ta) (gTup K 4 (gCons (gName i1) (gCons (gName i2) (gCons (gName i3) (gCons (gName i4) gNil)))))) s (.nx ((((s1.set i1 x1).set i2 x2).set i3 x3).set i4 x4)) := fun σ H F fp e Ed q =>
  h σ H F fp e _ fun vs H' F' fp' P e' st l hx ol => by
    match vs, l with
    | [v1, v2, v3, v4], _ =>
      refine ⟨by show 4 ≤ sizeLine; decide, fun p hp => ?_⟩
      have ex := Ex.new (o := .tup [v1, v2, v3, v4]) hp
      have e2 := e'.growH (o := .tup [v1, v2, v3, v4]) hp
      have st2 := st.trans (Step.growH (F := F') (fp := fp') (o := .tup [v1, v2, v3, v4]) hp)
      have ow : ∀ i, Own H fp (upd H' p (.tup [v1, v2, v3, v4])) F' fp' (P i) := fun i => (ol.own i).growH hp
      have up : ∀ {i : Nat} {x : Sl} {sv : Option (Option V)}, SlOk K F' H' (P i) sv x → SlOk K F' (upd H' p (.tup [v1, v2, v3, v4])) (P i) sv x := fun {i x sv} z => z.mono (Ex.refl F') (fun b hb => ((ol.own i).th b hb).get ex) (ExtKeep.of ex)
      have z1 := up (hx 0 x1 rfl)
      have z2 := up (hx 1 x2 rfl)
      have z3 := up (hx 2 x3 rfl)
      have z4 := up (hx 3 x4 rfl)
      have o1 := ow 0
      have o2 := (ow 1).fps (i := .inl i1) (ol.dj 1 0 · (by decide))
      have o3 := ((ow 2).fps (i := .inl i1) (ol.dj 2 0 · (by decide))).fps (i := .inl i2) (ol.dj 2 1 · (by decide))
      have o4 := (((ow 3).fps (i := .inl i1) (ol.dj 3 0 · (by decide))).fps (i := .inl i2) (ol.dj 3 1 · (by decide))).fps (i := .inl i3) (ol.dj 3 2 · (by decide))
      refine ⟨p, [v1, v2, v3, v4], rfl, .inl (.inl upd_same), rfl, v1, _, rfl, v2, _, rfl, v3, _, rfl, v4, _, rfl, rfl, ?_⟩
      exact q _ _ F' _ ((((e2.setX (i := i1) z1 o1).setX (i := i2) z2 o2).setX (i := i3) z3 o3).setX (i := i4) z4 o4) ((((st2.own o1).own o2).own o3).own o4)
end
end DL
namespace DL
open PySem PySem.Spec PyProof.Rows L2
/-! ### xs * n, a new list -/
def rDl2 (K : PySem.W.Frag) (ok : D → D → Prop) (f : D → D → List D) : R2 := fun x y H Q => ∃ F dx dy, Ex F H ∧ AtC K F H x dx ∧ AtC K F H y dy ∧ ok dx dy ∧ ∀ p vs, H p = none → AtAll K F vs (f dx dy) → Q (.ref p) (upd H p (.lst vs))
def repOk : D → D → Prop
  | .list a, .int k => -(2 ^ 63) ≤ k ∧ k < 2 ^ 63 ∧ a.length * k.toNat ≤ sizeLine
  | _, _ => False
def repL : D → D → List D
  | .list a, .int k => (List.replicate k.toNat a).flatten
  | _, _ => []
theorem op_repL {X : Cx} : OpR X (binaryOp .Mult) (rDl2 X.K repOk repL) := by
  intro pins s σ H x y v u Q I rx ry ⟨F, dx, dy, e, hx, hy, ok, k⟩
  match dx, dy, ok with
  | .list a, .int j, ⟨o1, o2, o3⟩ =>
    obtain ⟨p, vs, rfl, h1, h2⟩ := hx.lst e
    have q2 := hy.int
    subst q2
    exact op_rep pins s σ H _ _ v u Q I rx ry ⟨p, j, vs, rfl, rfl, h1, o1, o2, by rw [h2.length]; exact o3, fun r hr => k r _ hr (h2.flat _)⟩
section
variable {K : PySem.W.Frag} {s s1 s2 : S} {ta tb : TE} {x y : D} {ok : D → D → Prop} {f : D → D → List D}
theorem eo_op2 (ha : Ev K ta s x s1) (hb : Ev K tb s1 y s2) (h : ok x y) : EvO K (tOp (rDl2 K ok f) ta tb) s (lstR K none (f x y)) s2 := fun σ H F fp E Q q =>
  ha σ H F fp E _ fun vx H1 F1 fp1 E1 st1 a1 => hb σ H1 F1 fp1 E1 _ fun vy H2 F2 fp2 E2 st2 a2 =>
    ⟨F2, x, y, E2.ex, .inl (a1.ex st2.ex), .inl a2, h, fun p vs hp av => q _ _ F2 fp2 (fun b => b = p) (E2.growH hp) ((st1.trans st2).trans (Step.growH hp)) ⟨p, vs, rfl, (fun _ z => nomatch z), fun _ => Iff.rfl, upd_same, av⟩ (Own.laid E2 (st1.trans st2) hp)⟩
theorem ev_op2L (ha : Ev K ta s x s1) (hb : Ev K tb s1 y s2) (h : ok x y) : Ev K (tOp (rDl2 K ok f) ta tb) s (.list (f x y)) s2 := fun σ H F fp E Q q =>
  ha σ H F fp E _ fun vx H1 F1 fp1 E1 st1 a1 => hb σ H1 F1 fp1 E1 _ fun vy H2 F2 fp2 E2 st2 a2 =>
    ⟨F2, x, y, E2.ex, .inl (a1.ex st2.ex), .inl a2, h, fun p vs hp av => by
      have g : Grow F2 H2 (upd F2 p (.lst vs)) (upd H2 p (.lst vs)) := Grow.laid E2.ex hp
      exact q _ _ _ fp2 (E2.grow g) ((st1.trans st2).trans (E2.growS g)) (.lst upd_same (av.ex g.f))⟩
theorem eo_rep0 {n : Int} {z : D} (hb : Ev K tb s (.int n) s1) (hz : Ev K ta s z s) (h0 : 0 ≤ n) (h1 : n ≤ 1000000) : EvO K (tOp (rDl2 K repOk repL) (tLst (tCons ta tNil)) tb) s (lstR K none (List.replicate n.toNat z)) s1 := by
  have := eo_op2 (ok := repOk) (f := repL) (ev_lst (ea_cons hz ea_nil) (le_size (by simp))) hb ⟨by omega, by omega, le_size (by simp; omega)⟩
  have e : repL (.list [z]) (.int n) = List.replicate n.toNat z := by
    show (List.replicate n.toNat [z]).flatten = _
    simp
  rw [e] at this
  exact this
end
end DL
namespace DL
open PySem PySem.Spec PyProof.Rows L2
section
variable {K : PySem.W.Frag} {s s1 s2 : S} {ta tb : TE} {b : Bool}
/-- a and b, a true, b in its own state -/
theorem ev_andT (h1 : Ev K ta s (.bool true) s1) (h2 : Ev K tb s1 (.bool b) s2) : Ev K (tAndV ta tb) s (.bool b) s2 := fun σ H F fp E Q q =>
  h1 σ H F fp E _ fun v H1 F1 fp1 E1 st1 a1 => by
    cases a1
    refine ⟨true, rfl, ?_⟩
    show tb σ H1 Q
    exact h2 σ H1 F1 fp1 E1 Q fun v H2 F2 fp2 E2 st2 a2 => q v H2 F2 fp2 E2 (st1.trans st2) a2
end
end DL

/-! owned things at one address; dicts -/
namespace DL
open PySem PySem.Spec PyProof.Rows L2
def NoExt (o : HO) : Prop := ∀ φ, o ≠ .ext φ
/-- what an object is, leaning on the frozen part -/
structure Cell where
  c : Hp → HO → Prop
  mono : ∀ {F F' : Hp} {o : HO}, Ex F F' → c F o → c F' o
  nt : ∀ {F : Hp} {o : HO}, c F o → NoTbl o ∧ NoExt o
def cellR (ov : Option V) (x : Cell) : Rs where
  ok := fun F H P sv => ∃ a o, sv = some (some (.ref a)) ∧ (∀ v, ov = some v → v = .ref a) ∧ (∀ b, P b ↔ b = a) ∧ H a = some o ∧ x.c F o
  mono := fun ⟨a, o, h1, h2, h3, h4, h5⟩ e k _ => ⟨a, o, h1, h2, h3, by rw [k a ((h3 a).mpr rfl)]; exact h4, x.mono e h5⟩
theorem pin_cell {v : V} {x : Cell} : Pin (cellR (some v) x) v := fun ⟨a, o, h1, h2, h3, h4, h5⟩ => by
  have := h2 v rfl
  subst this
  exact ⟨a, o, rfl, h2, h3, h4, h5⟩
section
variable {K : PySem.W.Frag} {E : XK} {s s1 s2 s3 s' : S} {te ta tb ti : TE} {t : TS} {d x y : D} {o : Out} {σ : L2.St} {H F : Hp} {fp : Fp}
theorem EnvW.cell {i : Nat} {ov : Option V} {x : Cell} (E : EnvW K σ s H F fp) (h : s.s[i]? = some (.res (cellR ov x))) : ∃ a o, σ[i]? = some (some (.ref a)) ∧ (∀ b, fp (.inl i) b ↔ b = a) ∧ H a = some o ∧ x.c F o := by
  obtain ⟨a, o, h1, _, h3, h4, h5⟩ := E.sl i _ h
  exact ⟨a, o, h1, h3, h4, h5⟩
theorem mut_extO {p : Addr} {o u : HO} (h : H p = some u) (n : NoExt u) : ExtKeep H (upd H p o) := fun b φ q => by
  rw [upd_ne fun z => by rw [z, h] at q; cases q; exact n φ rfl]; exact q
theorem tabs_mutO {T : List (Addr × Str)} {p : Addr} {o u : HO} (t : LamX.Tabs T H) (h : H p = some u) (n : NoTbl u) (n2 : NoExt u) : LamX.Tabs T (upd H p o) := fun x hx => by
  obtain ⟨ps, h1, h2, h3⟩ := t x hx
  refine ⟨ps, by rw [upd_ne fun z => by rw [z, h] at h1; cases h1; exact n ps rfl]; exact h1, h2, fun pos cv hc => ?_⟩
  obtain ⟨c, e1, e2⟩ := h3 pos cv hc
  exact ⟨c, e1, mut_extO h n2 _ _ e2⟩
theorem EnvW.putC {i : Nat} {ov : Option V} {x x' : Cell} {a : Addr} {o' : HO} (E : EnvW K σ s H F fp) (hi : s.s[i]? = some (.res (cellR ov x))) (hσ : σ[i]? = some (some (.ref a))) (hv : x'.c F o') :
    EnvW K σ (s.set i (.res (cellR ov x'))) (upd H a o') F fp ∧ Step H F fp (upd H a o') F fp := by
  obtain ⟨a', o, h1, h2, h3, h4, h5⟩ := E.sl i _ hi
  rw [hσ] at h1
  cases h1
  obtain ⟨n1, n2⟩ := x.nt h5
  have hfa : fp (.inl i) a := (h3 a).mpr rfl
  have hil : i < s.s.length := (List.getElem?_eq_some_iff.mp hi).1
  refine ⟨⟨fun b u q => ?_, by simp [S.set, E.len], fun j y hj => ?_, tabs_mutO E.tb h4 n1 n2, E.dj, E.nf, fun j b h => ?_, E.nt⟩, ⟨Ex.refl F, fun _ h _ _ => h, fun b o h1 _ h2 => ?_, fun j b h => .inl ⟨j, h⟩, mut_extO h4 n2⟩⟩
  · rw [upd_ne (ne_of_none q (E.nf _ a hfa))]; exact E.ex b u q
  · by_cases z : j = i
    · subst z
      have e1 : (s.s.set j (.res (cellR ov x')))[j]? = some (.res (cellR ov x')) := List.getElem?_set_self hil
      rw [show (s.set j (.res (cellR ov x'))).s = s.s.set j (.res (cellR ov x')) from rfl, e1] at hj
      cases hj
      exact ⟨a, o', hσ, h2, h3, upd_same, hv⟩
    · have e1 : (s.s.set i (.res (cellR ov x')))[j]? = s.s[j]? := List.getElem?_set_ne (Ne.symm z)
      rw [show (s.set i (.res (cellR ov x'))).s = s.s.set i (.res (cellR ov x')) from rfl, e1] at hj
      exact (E.sl j y hj).mono (Ex.refl F) (fun b hb => upd_ne fun q => E.dj (.inl j) (.inl i) b (by intro w; cases w; exact z rfl) hb (q ▸ hfa)) (mut_extO h4 n2)
  · by_cases z : b = a
    · subst z; exact ⟨_, upd_same, (x'.nt hv).1⟩
    · obtain ⟨o, q, n⟩ := E.th j b h; exact ⟨o, by rw [upd_ne z]; exact q, n⟩
  · have : b ≠ a := fun q => h2 (.inl i) (q ▸ hfa)
    rw [upd_ne this]; exact h1
/-- a new owned thing -/
theorem cell_new {H0 F0 : Hp} {fp0 : Fp} {x : Cell} {p : Addr} {o : HO} {Q : VK} {r : Rs} (hr : r = cellR none x) (e : EnvW K σ s H F fp) (st : Step H0 F0 fp0 H F fp) (hp : H p = none) (hc : x.c F o)
    (q : ∀ v H' F' fp' P, EnvW K σ s H' F' fp' → Step H0 F0 fp0 H' F' fp' → r.ok F' H' P (some (some v)) → Own H0 fp0 H' F' fp' P → Q v H') : Q (.ref p) (upd H p o) := by
  subst hr
  exact q _ _ F fp (fun b => b = p) (e.growH hp) (st.trans (Step.growH hp)) ⟨p, o, rfl, (fun _ z => nomatch z), fun _ => Iff.rfl, upd_same, hc⟩ (Own.laid (K := K) e st hp (x.nt hc).1)
/-- it is given up: from now on it is data -/
theorem EnvW.freezeC {i : Nat} {ov : Option V} {x : Cell} {d : D} (e : EnvW K σ s H F fp) (hi : s.s[i]? = some (.res (cellR ov x))) (hd : ∀ {F : Hp} {a : Addr} {o : HO}, x.c F o → F a = some o → At K F (.ref a) d) : ∃ F', EnvW K σ (s.set i (.dat d)) H F' (fpSet fp (.inl i) noP) ∧ Step H F fp H F' (fpSet fp (.inl i) noP) := by
  obtain ⟨a, o, h1, h2, h3, h4⟩ := e.cell hi
  obtain ⟨n1, n2⟩ := x.nt h4
  have hfa : fp (.inl i) a := (h2 a).mpr rfl
  have hFa : F a = none := e.nf _ a hfa
  have eF : Ex F (upd F a o) := Ex.new hFa
  have hil : i < s.s.length := (List.getElem?_eq_some_iff.mp hi).1
  have nfa : ∀ j b, j ≠ .inl i → fp j b → b ≠ a := fun j b hj hb z => e.dj j (.inl i) b hj hb (z ▸ hfa)
  refine ⟨upd F a o, ⟨fun b u q => ?_, by simp [S.set, e.len], fun j y hj => ?_, e.tb, fun j k b hjk h1 h2 => ?_, fun j b hb => ?_, fun j b hb => ?_, fun b o q => ?_⟩, ⟨eF, fun b h1 h2 h3 => ?_, fun b o h1 _ _ => h1, fun j b hb => ?_, fun _ _ h => h⟩⟩
  · by_cases z : b = a
    · subst z; rw [upd_same] at q; cases q; exact h3
    · rw [upd_ne z] at q; exact e.ex b u q
  · by_cases z : j = i
    · subst z
      have e1 : (s.s.set j (.dat d))[j]? = some (.dat d) := List.getElem?_set_self hil
      rw [show (s.set j (.dat d)).s = s.s.set j (.dat d) from rfl, e1] at hj
      cases hj
      exact ⟨.ref a, h1, hd (x.mono eF h4) upd_same⟩
    · have e1 : (s.s.set i (.dat d))[j]? = s.s[j]? := List.getElem?_set_ne (Ne.symm z)
      rw [show (s.set i (.dat d)).s = s.s.set i (.dat d) from rfl, e1] at hj
      rw [fpSet_ne (by intro q; cases q; exact z rfl)]
      exact (e.sl j y hj).mono eF (fun _ _ => rfl) (fun _ _ h => h)
  · by_cases z : j = .inl i
    · subst z; rw [fpSet_same] at h1; exact h1
    · rw [fpSet_ne z] at h1
      by_cases y : k = .inl i
      · subst y; rw [fpSet_same] at h2; exact h2
      · rw [fpSet_ne y] at h2; exact e.dj j k b hjk h1 h2
  · by_cases z : j = .inl i
    · subst z; rw [fpSet_same] at hb; exact hb.elim
    · rw [fpSet_ne z] at hb; rw [upd_ne (nfa j b z hb)]; exact e.nf j b hb
  · by_cases z : j = .inl i
    · subst z; rw [fpSet_same] at hb; exact hb.elim
    · rw [fpSet_ne z] at hb; exact e.th j b hb
  · by_cases z : b = a
    · subst z; rw [upd_same] at q; cases q; exact n1
    · rw [upd_ne z] at q; exact e.nt b o q
  · have : b ≠ a := fun z => h3 (.inl i) (z ▸ hfa)
    rw [upd_ne this]; exact h1
  · by_cases z : j = .inl i
    · subst z; rw [fpSet_same] at hb; exact hb.elim
    · rw [fpSet_ne z] at hb; exact .inl ⟨j, hb⟩
/-! ### dicts whose keys are ints and texts -/
def keyIs (k : Key) : D → Bool
  | .int i => match k with
    | .inl j => decide (i = j)
    | _ => false
  | .str x => match k with
    | .inr y => decide (x = y)
    | _ => false
  | _ => false
theorem keyIs_key {k j : Key} : keyIs k (keyD j) = decide (j = k) := by
  cases j <;> cases k <;> simp [keyIs, keyD]
def dlook : List (D × D) → Key → Option D
  | [], _ => none
  | (a, d) :: r, k => if keyIs k a = true then some d else dlook r k
def dput (ds : List (D × D)) (k : Key) (d : D) : List (D × D) := if (dlook ds k).isSome = true then ds.map (fun p => if keyIs k p.1 = true then (p.1, d) else p) else ds ++ [(keyD k, d)]
theorem AtKV.look {k : Key} : ∀ {kvs : List (Key × V)} {ds : List (D × D)}, AtKV K F kvs ds → (∀ d, dlook ds k = some d → ∃ v, valV kvs k = some v ∧ At K F v d) ∧ (dlook ds k = none → valV kvs k = none)
  | _, _, .nil => ⟨fun d h => (nomatch h), fun _ => rfl⟩
  | _, _, .cons (k := j) (kvs := kvs) h t => by
    obtain ⟨h1, h2⟩ := AtKV.look (k := k) t
    by_cases q : j = k
    · subst q
      refine ⟨fun d hd => ?_, fun hd => ?_⟩
      · unfold dlook at hd
        rw [keyIs_key, if_pos (by simp)] at hd
        cases hd
        exact ⟨_, valV_pos rfl, h⟩
      · unfold dlook at hd
        rw [keyIs_key, if_pos (by simp)] at hd
        cases hd
    · refine ⟨fun d hd => ?_, fun hd => ?_⟩
      · unfold dlook at hd
        rw [keyIs_key, if_neg (by simpa using q)] at hd
        obtain ⟨v, e1, e2⟩ := h1 d hd
        exact ⟨v, by rw [valV_neg q]; exact e1, e2⟩
      · unfold dlook at hd
        rw [keyIs_key, if_neg (by simpa using q)] at hd
        rw [valV_neg q]; exact h2 hd
theorem AtKV.app : ∀ {kvs js : List (Key × V)} {ds es : List (D × D)}, AtKV K F kvs ds → AtKV K F js es → AtKV K F (kvs ++ js) (ds ++ es)
  | _, _, _, _, .nil, s => s
  | _, _, _, _, .cons h t, s => .cons h (AtKV.app t s)
theorem AtKV.upd {k : Key} {v : V} {d : D} (h : At K F v d) : ∀ {kvs : List (Key × V)} {ds : List (D × D)}, AtKV K F kvs ds → AtKV K F (kvs.map fun kv => if kv.1 = k then (kv.1, v) else kv) (ds.map fun p => if keyIs k p.1 = true then (p.1, d) else p)
  | _, _, .nil => .nil
  | _, _, .cons (k := j) g t => by
    simp only [List.map_cons]
    rw [keyIs_key]
    by_cases q : j = k
    · subst q
      simp only [if_pos, decide_true]
      exact .cons h (AtKV.upd h t)
    · simp only [q, if_false, decide_false, Bool.false_eq_true]
      exact .cons g (AtKV.upd h t)
theorem AtKV.put {k : Key} {v : V} {d : D} (h : At K F v d) {kvs : List (Key × V)} {ds : List (D × D)} (t : AtKV K F kvs ds) : AtKV K F (putK kvs k v) (dput ds k d) := by
  obtain ⟨h1, h2⟩ := t.look (k := k)
  unfold putK dput
  rw [valV_any]
  cases q : dlook ds k with
  | none =>
    rw [h2 q]
    exact t.app (.cons h .nil)
  | some e =>
    obtain ⟨w, e1, _⟩ := h1 e q
    rw [e1]
    exact t.upd h
theorem AtKV.len : ∀ {kvs : List (Key × V)} {ds : List (D × D)}, AtKV K F kvs ds → kvs.length = ds.length
  | _, _, .nil => rfl
  | _, _, .cons _ t => by simp [AtKV.len t]
def dctC (K : PySem.W.Frag) (ds : List (D × D)) : Cell where
  c := fun F o => ∃ kvs, o = .dK kvs ∧ AtKV K F kvs ds
  mono := fun e ⟨kvs, h1, h2⟩ => ⟨kvs, h1, h2.ex e⟩
  nt := fun ⟨kvs, h1, _⟩ => by subst h1; exact ⟨(fun _ z => by cases z), (fun _ z => by cases z)⟩
abbrev dctR (K : PySem.W.Frag) (ov : Option V) (ds : List (D × D)) : Rs := cellR ov (dctC K ds)
/-- {k: v, ..} -/
inductive AtPs (K : PySem.W.Frag) (F : Hp) : List (V × V) → List (Key × D) → Prop
  | nil : AtPs K F [] []
  | cons {k : Key} {v : V} {vs : List (V × V)} {d : D} {ds : List (Key × D)} : At K F v d → AtPs K F vs ds → AtPs K F ((kV k, v) :: vs) ((k, d) :: ds)
def EvPs (K : PySem.W.Frag) (trs : List (TE × TE)) (s : S) (ps : List (Key × D)) (s' : S) : Prop := ∀ σ H F fp, EnvW K σ s H F fp → ∀ Q : List (V × V) → Hp → Prop, (∀ vs H' F' fp', EnvW K σ s' H' F' fp' → Step H F fp H' F' fp' → AtPs K F' vs ps → Q vs H') → tPairs trs σ H Q
theorem ep_nil : EvPs K [] s [] s := fun σ H F fp e Q q => q _ H F fp e (Step.refl _ _ _) .nil
theorem at_key {k : Key} {v : V} (h : At K F v (keyD k)) : v = kV k := by
  cases k with
  | inl i => cases h; rfl
  | inr x => cases h; rfl
theorem ep_cons {k : Key} {trs : List (TE × TE)} {ps : List (Key × D)} (h1 : Ev K ta s (keyD k) s1) (h2 : Ev K tb s1 d s2) (hr : EvPs K trs s2 ps s3) : EvPs K ((ta, tb) :: trs) s ((k, d) :: ps) s3 := fun σ H F fp e Q q =>
  h1 σ H F fp e _ fun v H1 F1 fp1 e1 st1 a1 => h2 σ H1 F1 fp1 e1 _ fun w H2 F2 fp2 e2 st2 a2 => hr σ H2 F2 fp2 e2 _ fun vs H3 F3 fp3 e3 st3 a3 => by
    rw [at_key a1]
    exact q _ H3 F3 fp3 e3 ((st1.trans st2).trans st3) (.cons (a2.ex st3.ex) a3)
def dmerge (ds : List (D × D)) (ps : List (Key × D)) : List (D × D) := ps.foldl (fun acc p => dput acc p.1 p.2) ds
theorem AtPs.un : ∀ {vs : List (V × V)} {ps : List (Key × D)}, AtPs K F vs ps → ∃ kvs : List (Key × V), vs = kvs.map (fun kv => (kV kv.1, kv.2)) ∧ kvs.length = ps.length ∧ ∀ {js : List (Key × V)} {ds : List (D × D)}, AtKV K F js ds → AtKV K F (mergeK js kvs) (dmerge ds ps)
  | _, _, .nil => ⟨[], rfl, rfl, fun h => h⟩
  | _, _, .cons (k := k) (v := v) h t => by
    obtain ⟨kvs, h1, h2, h3⟩ := t.un
    refine ⟨(k, v) :: kvs, by rw [h1]; rfl, by simp [h2], fun q => ?_⟩
    exact h3 (q.put h)
theorem eo_disp {trs : List (TE × TE)} {ps : List (Key × D)} (h : EvPs K trs s ps s1) (hl : ps.length ≤ 15) : EvO K (tDisp trs) s (dctR K none (dmerge [] ps)) s1 := fun σ H F fp e Q q p hp => by
  have e0 := e.growH (o := .dK []) hp
  have st0 : Step H F fp (upd H p (.dK [])) F fp := Step.growH hp
  refine h σ _ F fp e0 _ fun vs H1 F1 fp1 e1 st1 a1 => ?_
  have hpF : F p = none := e.ex.un hp
  have hfp : ∀ i, ¬ fp i p := fun i hi => (e.th i p hi).ne hp rfl
  have lv : Live (upd H p (.dK [])) p := ⟨_, upd_same, by intro ps z; cases z⟩
  have hp1 : H1 p = some (.dK []) := st1.keep p _ upd_same (by intro ps z; cases z) hfp
  have hF1 : F1 p = none := st1.new p hpF lv hfp
  have nf1 : ∀ i, ¬ fp1 i p := fun i hi => by
    rcases st1.fpn i p hi with ⟨j, hj⟩ | z
    · exact hfp j hj
    · exact z lv
  obtain ⟨kvs, k1, k2, k3⟩ := a1.un
  refine ⟨hp1, kvs, k1, by omega, ?_⟩
  have e2 : EnvW K σ s1 (upd H1 p (.dK (mergeK [] kvs))) F1 fp1 := by
    refine ⟨fun b u z => ?_, e1.len, fun i x hx => ?_, tabs_mutO e1.tb hp1 (by intro ps z; cases z) (by intro ps z; cases z), e1.dj, e1.nf, fun i b hb => ?_, e1.nt⟩
    · rw [upd_ne (ne_of_none z hF1)]; exact e1.ex b u z
    · exact (e1.sl i x hx).mono (Ex.refl F1) (fun b hb => upd_ne fun z => nf1 _ (z ▸ hb)) (mut_extO hp1 (by intro ps z; cases z))
    · obtain ⟨o, w, n⟩ := e1.th i b hb
      exact ⟨o, by rw [upd_ne fun z => by subst z; exact nf1 _ hb]; exact w, n⟩
  have st2 : Step H F fp (upd H1 p (.dK (mergeK [] kvs))) F1 fp1 := by
    have st := st0.trans st1
    refine ⟨st.ex, st.new, fun b u h1 h2 h3 => ?_, st.fpn, fun b φ h1 => ?_⟩
    · rw [upd_ne (ne_of_none h1 hp)]; exact st.keep b u h1 h2 h3
    · rw [upd_ne (ne_of_none h1 hp)]; exact st.ext b φ h1
  refine q _ _ F1 fp1 (fun b => b = p) e2 st2 ⟨p, _, rfl, (fun _ z => nomatch z), fun _ => Iff.rfl, upd_same, _, rfl, k3 .nil⟩ ⟨fun b hb => by subst hb; exact hF1, fun b i hb hi => by subst hb; exact nf1 i hi, fun b hb => by subst hb; exact ⟨_, upd_same, by intro ps z; cases z⟩, fun b hb => ?_⟩
  subst hb
  exact .inr fun l => l.ne hp rfl
theorem ev_dispD {trs : List (TE × TE)} {ps : List (Key × D)} (h : EvPs K trs s ps s1) (hl : ps.length ≤ 15) : EvO K (tDisp trs) s (dctR K none (dmerge [] ps)) s1 := eo_disp h hl
/-- d[k], d data -/
theorem ev_dget {ds : List (D × D)} {k : Key} (ha : Ev K ta s (.dict ds) s1) (hb : Ev K tb s1 (keyD k) s2) (h : dlook ds k = some d) : Ev K (tDGet ta tb) s d s2 := fun σ H F fp e Q q =>
  ha σ H F fp e _ fun v H1 F1 fp1 e1 st1 a1 => hb σ H1 F1 fp1 e1 _ fun w H2 F2 fp2 e2 st2 a2 => by
    rw [at_key a2]
    cases a1 with
    | dic h1 h2 =>
      obtain ⟨u, w1, w2⟩ := h2.look.1 d h
      exact ⟨_, u, rfl, .inl ⟨_, k, .inl (e2.ex _ _ (st2.ex _ _ h1)), rfl, w1.symm⟩, q u H2 F2 fp2 e2 (st1.trans st2) (w2.ex st2.ex)⟩
    | scr h1 => cases k <;> cases h
/-- d[k], d owned -/
theorem ev_dgetO {i : Nat} {ov ov' : Option V} {ds ds' : List (D × D)} {k : Key} (hi : s.s[i]? = some (.res (dctR K ov ds))) (hb : Ev K tb s (keyD k) s2) (hi2 : s2.s[i]? = some (.res (dctR K ov' ds'))) (h : dlook ds' k = some d) : Ev K (tDGet (tVar i) tb) s d s2 := fun σ H F fp e Q q => by
  obtain ⟨a, o, h1, _, _, _⟩ := e.cell hi
  refine ⟨.ref a, h1, hb σ H F fp e _ fun w H2 F2 fp2 e2 st2 a2 => ?_⟩
  rw [at_key a2]
  obtain ⟨a', o', h1', _, h4, kvs, h5, h6⟩ := e2.cell hi2
  rw [h1] at h1'
  cases h1'
  subst h5
  obtain ⟨u, w1, w2⟩ := h6.look.1 d h
  exact ⟨_, u, rfl, .inl ⟨_, k, .inl h4, rfl, w1.symm⟩, q u H2 F2 fp2 e2 st2 w2⟩
/-- d[k] = e -/
theorem run_putD {i : Nat} {ov ov' : Option V} {ds ds' : List (D × D)} {k : Key} (h : Ev K te s d s1) (hi : s1.s[i]? = some (.res (dctR K ov ds))) (hk : Ev K ti s1 (keyD k) s2) (hi2 : s2.s[i]? = some (.res (dctR K ov' ds'))) (hz : ds'.length < sizeLine) :
    Run K E (tAsg te (gSub (tVar i) ti rSetD)) s (.nx (s2.set i (.res (dctR K ov' (dput ds' k d))))) := fun σ H F fp e Ed q =>
  h σ H F fp e _ fun v H1 F1 fp1 e1 st1 a1 => by
    obtain ⟨a, o, h1, _⟩ := e1.cell hi
    refine ⟨.ref a, h1, hk σ H1 F1 fp1 e1 _ fun w H2 F2 fp2 e2 st2 a2 => ?_⟩
    rw [at_key a2]
    obtain ⟨a', o', h1', _, h4, kvs, h5, h6⟩ := e2.cell hi2
    rw [h1] at h1'
    cases h1'
    subst h5
    refine ⟨a, _, rfl, .inl ⟨kvs, k, h4, rfl, by rw [h6.len]; exact hz, rfl⟩, ?_⟩
    obtain ⟨e3, st3⟩ := e2.putC (x' := dctC K (dput ds' k d)) hi2 h1 ⟨_, rfl, h6.put (a1.ex st2.ex)⟩
    exact q σ _ F2 fp2 e3 ((st1.trans st2).trans st3)
theorem run_frzD {i : Nat} {ov : Option V} {ds : List (D × D)} (hi : s.s[i]? = some (.res (dctR K ov ds))) (h : Run K E t (s.set i (.dat (.dict ds))) o) : Run K E t s o := fun σ H F fp e Ed q => by
  obtain ⟨F', e', st⟩ := e.freezeC (d := .dict ds) hi fun {F a o} ⟨kvs, h1, h2⟩ hF => by subst h1; exact .dic hF h2
  exact h σ H F' _ e' Ed (q.step st)
/-- a new thing that nobody changes is data -/
theorem ev_ofO {x : Cell} (h : EvO K te s (cellR none x) s1) (hd : ∀ {F : Hp} {a : Addr} {o : HO}, x.c F o → F a = some o → At K F (.ref a) d) : Ev K te s d s1 := fun σ H F fp e Q q =>
  h σ H F fp e _ fun v H1 F1 fp1 P e1 st1 r w => by
    obtain ⟨a, o, h1, h2, h3, h4, h5⟩ := r
    cases h1
    obtain ⟨n1, n2⟩ := x.nt h5
    have pa : P a := (h3 a).mpr rfl
    have hFa : F1 a = none := w.nf a pa
    have eF : Ex F1 (upd F1 a o) := Ex.new hFa
    have nfa : ∀ i, ¬ fp1 i a := fun i hi => w.dj a i pa hi
    refine q (.ref a) H1 (upd F1 a o) fp1 ⟨fun b u z => ?_, e1.len, fun i y hy => ?_, e1.tb, e1.dj, fun i b hb => ?_, e1.th, fun b u z => ?_⟩ ⟨st1.ex.trans eF, fun b g1 g2 g3 => ?_, st1.keep, st1.fpn, st1.ext⟩ (hd (x.mono eF h5) upd_same)
    · by_cases c : b = a
      · subst c; rw [upd_same] at z; cases z; exact h4
      · rw [upd_ne c] at z; exact e1.ex b u z
    · exact (e1.sl i y hy).mono eF (fun _ _ => rfl) (fun _ _ h => h)
    · rw [upd_ne fun c => by subst c; exact nfa _ hb]; exact e1.nf i b hb
    · by_cases c : b = a
      · subst c; rw [upd_same] at z; cases z; exact n1
      · rw [upd_ne c] at z; exact e1.nt b u z
    · have : b ≠ a := fun c => by
        subst c
        rcases w.new b pa with ⟨j, hj⟩ | qq
        · exact g3 j hj
        · exact qq g2
      rw [upd_ne this]; exact st1.new b g1 g2 g3
theorem ev_dictO {ds : List (D × D)} (h : EvO K te s (dctR K none ds) s1) : Ev K te s (.dict ds) s1 := ev_ofO h fun {F a o} ⟨kvs, h1, h2⟩ hF => by subst h1; exact .dic hF h2
end
end DL

namespace DL
open PySem PySem.Spec PyProof.Rows L2
section
variable {K : PySem.W.Frag} {E : XK} {s s1 s2 s3 s' : S} {te ta tb tc ti : TE} {t : TS} {d x y : D} {o : Out} {σ : L2.St} {H F : Hp} {fp : Fp}
/-- the ints lo, lo + c, .. -/
def upBy (lo c : Int) (n : Nat) : List D := (List.range n).map fun i => .int (lo + (i : Nat) * c)
theorem upBy_get {lo c : Int} {n i : Nat} {d : D} (h : (upBy lo c n)[i]? = some d) : i < n ∧ d = .int (lo + (i : Nat) * c) := by
  unfold upBy at h
  rw [List.getElem?_map] at h
  obtain ⟨j, h1, h2⟩ := Option.map_eq_some_iff.mp h
  obtain ⟨h3, h4⟩ := List.getElem?_eq_some_iff.mp h1
  rw [List.getElem_range] at h4
  subst h4
  exact ⟨by simpa using h3, h2.symm⟩
theorem upBy_len {lo c : Int} {n : Nat} : (upBy lo c n).length = n := by simp [upBy]
theorem isIt_rngC {F : Hp} {lo c : Int} {n : Nat} : IsIt K (Itc lo c n) F (upBy lo c n) := fun F' H' i hF hH => ⟨fun d hd => by
  obtain ⟨h1, rfl⟩ := upBy_get hd
  refine ⟨h1, fun x H2 hy => ?_⟩
  obtain ⟨rfl, rfl⟩ := hy
  exact ⟨F', Grow.refl hH, .int _⟩, fun h => by rw [upBy_len] at h; exact Nat.le_of_eq h.symm⟩
theorem it_rng3 {i j c : Int} {n : Nat} (h1 : Ev K ta s (.int i) s1) (h2 : Ev K tb s1 (.int j) s2) (h3 : Ev K tc s2 (.int c) s3) (hr : RgC i j c n) : IterD K (iRng3 (tCons ta (tCons tb (tCons tc tNil)))) s (upBy i c n) s3 := fun σ H F fp e R r =>
  ea_cons h1 (ea_cons h2 (ea_cons h3 ea_nil)) σ H F fp e _ fun vs H1 F1 fp1 e1 st1 a1 => by
    cases a1 with
    | cons x y => cases x; cases y with
      | cons x y => cases x; cases y with
        | cons x y => cases x; cases y; exact ⟨i, j, c, n, rfl, hr, r _ H1 F1 fp1 e1 st1 isIt_rngC⟩
/-- a step up that meets the end -/
theorem rgC_up {i c : Int} {n : Nat} (hc : 0 < c) (hc2 : c < 1000000) (h0 : -1000000000 ≤ i) (h1 : i ≤ 1000000000) (hn : (n : Int) * c ≤ 1000000000) : RgC i (i + n * c) c n := by
  have hnn : 0 ≤ (n : Int) * c := Int.mul_nonneg (by omega) (by omega)
  have hs : Builtin.Range.rangeSize i (i + n * c) c = n := by
    unfold Builtin.Range.rangeSize
    rw [if_pos hc]
    by_cases z : n = 0
    · subst z
      rw [if_neg (by simp)]; rfl
    · have h2 : c ≤ (n : Int) * c := by
        have : (1 : Int) * c ≤ (n : Int) * c := Int.mul_le_mul_of_nonneg_right (by omega) (by omega)
        omega
      rw [if_pos (by omega)]
      have e : (i + (n : Int) * c - i - 1) = (c - 1) + ((n : Int) - 1) * c := by rw [Int.sub_mul]; omega
      rw [e, Int.add_mul_ediv_right _ _ (by omega), Int.ediv_eq_zero_of_lt (by omega) (by omega)]
      omega
  have hn3 : (n : Int) ≤ 1000000000 := by
    have : (n : Int) * 1 ≤ (n : Int) * c := Int.mul_le_mul_of_nonneg_left (by omega) (by omega)
    omega
  refine ⟨by omega, by omega, ?_, hs⟩
  unfold Builtin.Range.small
  rw [hs]
  simp [Builtin.Range.rangeFitsLong, hc]
  omega
/-- d["k"] -/
theorem ev_dgetS {ds : List (D × D)} {k : Str} (ha : Ev K ta s (.dict ds) s1) (h : dlook ds (.inr k) = some d) : Ev K (tDGet ta (tC (.str k))) s d s1 := ev_dget (k := .inr k) ha ev_str h
theorem run_putDS {i : Nat} {ov : Option V} {ds : List (D × D)} {k : Str} (h : Ev K te s d s1) (hi : s1.s[i]? = some (.res (dctR K ov ds))) (hz : ds.length < sizeLine) :
    Run K E (tAsg te (gSub (tVar i) (tC (.str k)) rSetD)) s (.nx (s1.set i (.res (dctR K ov (dput ds (.inr k) d))))) := run_putD (k := .inr k) h hi ev_str hi hz
theorem ep_consS {k : Str} {trs : List (TE × TE)} {ps : List (Key × D)} (h2 : Ev K tb s d s2) (hr : EvPs K trs s2 ps s3) : EvPs K ((tC (.str k), tb) :: trs) s ((.inr k, d) :: ps) s3 := ep_cons (k := .inr k) ev_str h2 hr
end
end DL

namespace DL
open PySem PySem.Spec PyProof.Rows L2
section
variable {K : PySem.W.Frag} {E : XK} {s s1 s2 s3 s' : S} {te ta tb tc ti : TE} {t u : TS} {tt : TT} {d x y : D} {o : Out} {σ : L2.St} {H F H1 F1 H' F' : Hp} {fp fp1 fpc fpc' : Fp}
/-- f(xs, ..), xs an owned list; what comes is new -/
theorem eo_callL {R : FR} {tr : TA} {ds : List D} {i : Nat} {ov ov' : Option V} {es es1 es2 : List D} {r : Rs} (hi : s.s[i]? = some (.res (lstR K ov es))) (ha : EvA K tr s ds s1) (hi1 : s1.s[i]? = some (.res (lstR K ov' es1)))
    (hR : ∀ v, R ⟨.res (lstR K (some v) es1) :: ds.map .dat, s1.g⟩ (.ro r ⟨.res (lstR K (some v) es2) :: ds.map .dat, s1.g⟩)) : EvO K (tCall (spF K R) [] E (tCons (tVar i) tr)) s r (s1.set i (.res (lstR K ov' es2))) := fun σ H F fp e Q q => by
  refine callL e hi ha hi1 hR fun a vs H1 F1 fp1 e1 st1 hσ hov => ?_
  have hfa : fp1 (.inl i) a := by
    obtain ⟨a', _, h1, h2, _⟩ := e1.own hi1
    rw [hσ] at h1; cases h1
    exact (h2 a).mpr rfl
  refine ⟨fun v H' F' fp' P e' st av w => ?_, hfa⟩
  obtain ⟨fp2, e2, st2, hfp⟩ := frameL e1 hi1 hσ hov hfa e' st
  refine q v H' F' fp2 P e2 (st1.trans st2) av ⟨w.nf, fun b j hb hj => ?_, w.th, fun b hb => ?_⟩
  · rcases hfp j b hj with h | h
    · rcases w.new b hb with ⟨k, hk⟩ | h2
      · obtain ⟨a', vs', z1, z2, z3, _⟩ := e'.sl 0 _ rfl
        have ea : a' = a := by have := z2 (.ref a) rfl; cases this; rfl
        subst ea
        rw [hk.2] at hb
        exact w.dj _ (.inl 0) hb ((z3 _).mpr rfl)
      · exact h2 (e1.th j b h)
    · exact w.dj b (.inl 0) hb h
  · rcases w.new b hb with ⟨k, hk⟩ | h2
    · obtain ⟨a', vs', z1, z2, z3, _⟩ := e'.sl 0 _ rfl
      have ea : a' = a := by have := z2 (.ref a) rfl; cases this; rfl
      subst ea
      rw [hk.2] at hb
      exact absurd ((z3 _).mpr rfl) (w.dj _ (.inl 0) hb)
    · by_cases z : ∃ j, fp j b
      · exact .inl z
      · exact .inr fun l => h2 (st1.live l fun i hi => z ⟨i, hi⟩)
/-- x = y, y an owned thing that moves -/
theorem run_mov {i j : Nat} {r : Rs} (hi : s.s[j]? = some (.res r)) (hp : ∀ {F H : Hp} {P : Addr → Prop} {sv : Option (Option V)}, r.ok F H P sv → ∃ v, sv = some (some v)) (hij : i ≠ j) : Run K E (tAsg (tVar j) (gName i)) s (.nx ((s.set j .unk).set i (.res r))) := fun σ H F fp e Ed q => by
  have h := e.sl j _ hi
  obtain ⟨v, hv⟩ := hp h
  have hjl : j < s.s.length := (List.getElem?_eq_some_iff.mp hi).1
  -- slot j forgotten
  have e1 : EnvW K σ (s.set j .unk) H F (fpSet fp (.inl j) noP) := by
    refine ⟨e.ex, by simp [S.set, e.len], fun k y hk => ?_, e.tb, fun a b c hab h1 h2 => ?_, fun a b h1 => ?_, fun a b h1 => ?_, e.nt⟩
    · by_cases z : k = j
      · subst z
        have e1 : (s.s.set k .unk)[k]? = some .unk := List.getElem?_set_self hjl
        rw [show (s.set k .unk).s = s.s.set k .unk from rfl, e1] at hk
        cases hk; trivial
      · have e1 : (s.s.set j .unk)[k]? = s.s[k]? := List.getElem?_set_ne (Ne.symm z)
        rw [show (s.set j .unk).s = s.s.set j .unk from rfl, e1] at hk
        rw [fpSet_ne (by intro q; cases q; exact z rfl)]
        exact e.sl k y hk
    · by_cases z : a = .inl j
      · subst z; rw [fpSet_same] at h1; exact h1
      · rw [fpSet_ne z] at h1
        by_cases y : b = .inl j
        · subst y; rw [fpSet_same] at h2; exact h2
        · rw [fpSet_ne y] at h2; exact e.dj a b c hab h1 h2
    · by_cases z : a = .inl j
      · subst z; rw [fpSet_same] at h1; exact h1.elim
      · rw [fpSet_ne z] at h1; exact e.nf a b h1
    · by_cases z : a = .inl j
      · subst z; rw [fpSet_same] at h1; exact h1.elim
      · rw [fpSet_ne z] at h1; exact e.th a b h1
  have w : Own H fp H F (fpSet fp (.inl j) noP) (fp (.inl j)) := by
    refine ⟨fun b hb => e.nf _ b hb, fun b k hb hk => ?_, fun b hb => e.th _ b hb, fun b hb => .inl ⟨_, hb⟩⟩
    by_cases z : k = .inl j
    · subst z; rw [fpSet_same] at hk; exact hk
    · rw [fpSet_ne z] at hk; exact e.dj k (.inl j) b z hk hb
  refine ⟨v, hv, q _ H F _ (e1.setO (by rw [← hv]; exact h) w) (Step.drop.own w)⟩
/-- two owned lists compared -/
theorem ev_opOO {ok : D → D → Prop} {f : D → D → D} {i j : Nat} {ov ov' : Option V} {ds ds' : List D} (hi : s.s[i]? = some (.res (lstR K ov ds))) (hj : s.s[j]? = some (.res (lstR K ov' ds'))) (h : ok (.list ds) (.list ds')) : Ev K (tOp (rD2 K ok f) (tVar i) (tVar j)) s (f (.list ds) (.list ds')) s := fun σ H F fp E Q q => by
  obtain ⟨a, vs, h1, _, h4, h5⟩ := E.own hi
  obtain ⟨a', vs', h1', _, h4', h5'⟩ := E.own hj
  exact ⟨.ref a, h1, .ref a', h1', F, .list ds, .list ds', E.ex, .inr ⟨_, _, _, rfl, rfl, h4, h5⟩, .inr ⟨_, _, _, rfl, rfl, h4', h5'⟩, h, fun v H' F' g a => q v H' F' fp (E.grow g) (E.growS g) a⟩
/-- a new list out of an owned one -/
theorem eo_cl1 {ok : List D → Prop} {f : List D → List D} {i : Nat} {ov : Option V} {ds : List D} (hi : s.s[i]? = some (.res (lstR K ov ds))) (h : ok [.list ds]) : EvO K (tCB (rDl K ok f) (tCons (tVar i) tNil)) s (lstR K none (f [.list ds])) s := fun σ H F fp E Q q => by
  obtain ⟨a, vs, h1, _, h4, h5⟩ := E.own hi
  refine ⟨.ref a, h1, F, [.list ds], E.ex, .cons (.inr ⟨_, _, _, rfl, rfl, h4, h5⟩) .nil, h, fun p vs' hp a' => ?_⟩
  exact q _ _ F fp (fun b => b = p) (E.growH hp) (Step.growH hp) ⟨p, vs', rfl, (fun _ z => nomatch z), fun _ => Iff.rfl, upd_same, a'⟩ (Own.laid E (Step.refl _ _ _) hp)
theorem eqv_ints : ∀ {xs ys : List Int}, PyData.eqvAll (xs.map PyData.int) (ys.map PyData.int) = decide (xs = ys)
  | [], [] => by simp [PyData.eqvAll]
  | [], y :: ys => by simp [PyData.eqvAll]
  | x :: xs, [] => by simp [PyData.eqvAll]
  | x :: xs, y :: ys => by
    rw [List.map_cons, List.map_cons]
    unfold PyData.eqvAll
    rw [eqv_ints (xs := xs) (ys := ys)]
    unfold PyData.eqv
    by_cases h : x = y <;> by_cases h2 : xs = ys <;> simp [h, h2]
theorem eqv_intL {xs ys : List Int} : PyData.eqv (.list (xs.map PyData.int)) (.list (ys.map PyData.int)) = decide (xs = ys) := by
  unfold PyData.eqv
  exact eqv_ints
theorem eqv_intT {xs ys : List Int} : PyData.eqv (.tuple (xs.map PyData.int)) (.tuple (ys.map PyData.int)) = decide (xs = ys) := by
  unfold PyData.eqv
  exact eqv_ints
theorem okL (ns : List Int) : SeqAt.shaped (.list (ns.map PyData.int)) = true := (sh_lst (n := 0) (ints_shs ns)).ok (by decide)
theorem okT (ns : List Int) : SeqAt.shaped (.tuple (ns.map PyData.int)) = true := (sh_tup (n := 0) (ints_shs ns)).ok (by decide)
/-- [e for i in range(n)] -/
theorem ev_lcR {tn : TE} {n : Int} {i : Nat} {f : Nat → D} (hn : Ev K tn s (.int n) s) (h1 : -1000000 ≤ n ∧ n ≤ 1000000) (hr : NoRes s [i]) (hw : ∀ y, SLe (((s.wipe [i]).set i y).wipe [i]) (s.wipe [i])) (he : ∀ k : Nat, (k : Int) < n → Ev K te ((s.wipe [i]).set i (.dat (.int (k : Nat)))) (f k) ((s.wipe [i]).set i (.dat (.int (k : Nat))))) :
    Ev K (tLc (iRng1 (tCons tn tNil)) (gName i) tYes te [i]) s (.list ((List.range n.toNat).map f)) s := by
  by_cases h0 : 0 ≤ n
  · refine Ev.to (ev_lcM (ds := upTo 0 n.toNat) (fun d => f (match d with | .int k => k.toNat | _ => 0)) (it_r1 hn (by omega)) (by rw [upTo_len]; exact le_size (by omega)) hr fun d hd => ?_) ?_
    · obtain ⟨k, hk, rfl⟩ := upTo_mem.mp hd
      refine ⟨_, tv_name (by simp), hw _, ?_⟩
      have e1 : (0 : Int) + (k : Int) = (k : Nat) := by omega
      rw [e1]
      exact he k (by omega)
    · unfold upTo
      rw [List.map_map]
      congr 1
      apply List.map_congr_left
      intro k _
      show f ((0 : Int) + (k : Int)).toNat = f k
      congr 1
      omega
  · have e0 : n.toNat = 0 := by omega
    rw [e0]
    refine Ev.to (ev_lcM (ds := upTo 0 n.toNat) (fun d => .none) (it_r1 hn (by omega)) (by rw [upTo_len]; exact le_size (by omega)) hr fun d hd => ?_) ?_
    · rw [e0] at hd
      simp [upTo] at hd
    · rw [e0]; rfl
/-- [e for i in xs], xs ints -/
theorem ev_lcI {tl : TE} {d : D} {ts : List Int} {i : Nat} {f : Int → D} (h : Ev K tl s d s) (hd : seqD d = some (ts.map PyData.int)) (hz : ts.length ≤ 1000000) (hr : NoRes s [i]) (hw : ∀ y, SLe (((s.wipe [i]).set i y).wipe [i]) (s.wipe [i])) (he : ∀ x, x ∈ ts → Ev K te ((s.wipe [i]).set i (.dat (.int x))) (f x) ((s.wipe [i]).set i (.dat (.int x)))) :
    Ev K (tLc (iSeq K tl) (gName i) tYes te [i]) s (.list (ts.map f)) s := by
  refine Ev.to (ev_lcM (fun d => match d with | .int k => f k | _ => .none) (it_seq h hd) (by rw [List.length_map]; exact le_size (by omega)) hr fun d hd => ?_) (by rw [List.map_map]; rfl)
  obtain ⟨x, hx, rfl⟩ := List.mem_map.mp hd
  exact ⟨_, tv_name (by simp), hw _, he x hx⟩
end
end DL

namespace DL
open PySem PySem.Spec PyProof.Rows L2
section
variable {K : PySem.W.Frag} {E : XK} {s s1 : S} {x1 x2 x3 : Sl} {ta : TA}
theorem run_tupX2 {i1 i2 : Nat} (h : EvX K ta s [x1, x2] s1) : Run K E (tAsg (tTup ta) (gTup K 2 (gCons (gName i1) (gCons (gName i2) gNil)))) s (.nx ((s1.set i1 x1).set i2 x2)) := fun σ H F fp e Ed q =>
  h σ H F fp e _ fun vs H' F' fp' P e' st l hx ol => by
    match vs, l with
    | [v1, v2], _ =>
      refine ⟨by show 2 ≤ sizeLine; decide, fun p hp => ?_⟩
      have ex := Ex.new (o := .tup [v1, v2]) hp
      have e2 := e'.growH (o := .tup [v1, v2]) hp
      have st2 := st.trans (Step.growH (F := F') (fp := fp') (o := .tup [v1, v2]) hp)
      have ow : ∀ i, Own H fp (upd H' p (.tup [v1, v2])) F' fp' (P i) := fun i => (ol.own i).growH hp
      have up : ∀ {i : Nat} {x : Sl} {sv : Option (Option V)}, SlOk K F' H' (P i) sv x → SlOk K F' (upd H' p (.tup [v1, v2])) (P i) sv x := fun {i x sv} z => z.mono (Ex.refl F') (fun b hb => ((ol.own i).th b hb).get ex) (ExtKeep.of ex)
      have z1 := up (hx 0 x1 rfl)
      have z2 := up (hx 1 x2 rfl)
      have o1 := ow 0
      have o2 := (ow 1).fps (i := .inl i1) (ol.dj 1 0 · (by decide))
      refine ⟨p, [v1, v2], rfl, .inl (.inl upd_same), rfl, v1, _, rfl, v2, _, rfl, rfl, ?_⟩
      exact q _ _ F' _ ((e2.setX (i := i1) z1 o1).setX (i := i2) z2 o2) ((st2.own o1).own o2)
theorem run_tupX3 {i1 i2 i3 : Nat} (h : EvX K ta s [x1, x2, x3] s1) : Run K E (tAsg (tTup ta) (gTup K 3 (gCons (gName i1) (gCons (gName i2) (gCons (gName i3) gNil))))) s (.nx (((s1.set i1 x1).set i2 x2).set i3 x3)) := fun σ H F fp e Ed q =>
  h σ H F fp e _ fun vs H' F' fp' P e' st l hx ol => by
    match vs, l with
    | [v1, v2, v3], _ =>
      refine ⟨by show 3 ≤ sizeLine; decide, fun p hp => ?_⟩
      have ex := Ex.new (o := .tup [v1, v2, v3]) hp
      have e2 := e'.growH (o := .tup [v1, v2, v3]) hp
      have st2 := st.trans (Step.growH (F := F') (fp := fp') (o := .tup [v1, v2, v3]) hp)
      have ow : ∀ i, Own H fp (upd H' p (.tup [v1, v2, v3])) F' fp' (P i) := fun i => (ol.own i).growH hp
      have up : ∀ {i : Nat} {x : Sl} {sv : Option (Option V)}, SlOk K F' H' (P i) sv x → SlOk K F' (upd H' p (.tup [v1, v2, v3])) (P i) sv x := fun {i x sv} z => z.mono (Ex.refl F') (fun b hb => ((ol.own i).th b hb).get ex) (ExtKeep.of ex)
      have z1 := up (hx 0 x1 rfl)
      have z2 := up (hx 1 x2 rfl)
      have z3 := up (hx 2 x3 rfl)
      have o1 := ow 0
      have o2 := (ow 1).fps (i := .inl i1) (ol.dj 1 0 · (by decide))
      have o3 := ((ow 2).fps (i := .inl i1) (ol.dj 2 0 · (by decide))).fps (i := .inl i2) (ol.dj 2 1 · (by decide))
      refine ⟨p, [v1, v2, v3], rfl, .inl (.inl upd_same), rfl, v1, _, rfl, v2, _, rfl, v3, _, rfl, rfl, ?_⟩
      exact q _ _ F' _ (((e2.setX (i := i1) z1 o1).setX (i := i2) z2 o2).setX (i := i3) z3 o3) (((st2.own o1).own o2).own o3)
end
end DL

namespace DL
open PySem PySem.Spec PyProof.Rows L2
theorem hu1 {X : Cx} {k : Nat} (hr : Room k X.A) : X.A.units + 1 < cLine := Nat.lt_of_le_of_lt (Nat.add_le_add_left (by decide) _) (hu65 hr)
theorem maxOf_le : ∀ (xs : List Int) (x : Int), x ≤ PySem.W.maxOf x xs ∧ (∀ y ∈ xs, y ≤ PySem.W.maxOf x xs) ∧ (PySem.W.maxOf x xs = x ∨ PySem.W.maxOf x xs ∈ xs)
  | [], x => ⟨Int.le_refl _, fun y h => by simp at h, .inl rfl⟩
  | y :: ys, x => by
    have e : PySem.W.maxOf x (y :: ys) = PySem.W.maxOf (if x < y then y else x) ys := by
      show List.foldl _ _ ys = List.foldl _ _ ys
      congr 1
      show (if decide (x < y) = true then y else x) = _
      simp
    obtain ⟨h1, h2, h3⟩ := maxOf_le ys (if x < y then y else x)
    rw [e]
    by_cases c : x < y
    · rw [if_pos c] at h1 h2 h3 ⊢
      refine ⟨by omega, fun z hz => ?_, ?_⟩
      · rcases List.mem_cons.mp hz with rfl | hz
        · exact h1
        · exact h2 z hz
      · rcases h3 with h | h
        · exact .inr (by rw [h]; exact List.mem_cons_self)
        · exact .inr (List.mem_cons_of_mem _ h)
    · rw [if_neg c] at h1 h2 h3 ⊢
      refine ⟨h1, fun z hz => ?_, ?_⟩
      · rcases List.mem_cons.mp hz with rfl | hz
        · omega
        · exact h2 z hz
      · rcases h3 with h | h
        · exact .inl h
        · exact .inr (List.mem_cons_of_mem _ h)
theorem maxOf_lmax {x : Int} {xs : List Int} : PySem.W.maxOf x xs = lmax (x :: xs) := by
  obtain ⟨h1, h2, h3⟩ := maxOf_le xs x
  refine (lmax_spec _ _ ?_ fun y hy => ?_).symm
  · rcases h3 with h | h
    · rw [h]; exact List.mem_cons_self
    · exact List.mem_cons_of_mem _ h
  · rcases List.mem_cons.mp hy with rfl | hy
    · exact h1
    · exact h2 y hy
def mmOkT : List D → Prop
  | [.tuple ds] => ds ≠ [] ∧ (intsOf ds).isSome = true
  | _ => False
def maxDT : List D → D
  | [.tuple ds] => .int (lmax ((intsOf ds).getD []))
  | _ => .none
theorem call_maxT {X : Cx} (hc : X.calm = true) (hu : X.A.units + 65 < cLine) : CallR X (.builtin "max") (rDn X.K mmOkT maxDT) := by
  intro pins s σ H xs us Q I r ⟨F, ds, e, ha, ok, k⟩
  match ds, ok, ha with
  | [.tuple ds], ⟨o1, o2⟩, .cons h1 .nil =>
    obtain ⟨p, vs, rfl, h2, _, h3⟩ := h1.tup e
    obtain ⟨ns, hn⟩ := Option.isSome_iff_exists.mp o2
    have ee := intsOf_eq hn
    subst ee
    rw [h3.ints] at h2
    obtain ⟨its, rv, hl, _⟩ := I.tuple h2
    have hi := rv.ints
    rw [Vals.ref1 r]
    cases ns with
    | nil => exact absurd rfl o1
    | cons x ns =>
      have H2 : PySem.W.HoldAll s.heap its (x :: ns) := PySem.W.HoldAll.of_ints hi
      refine PySem.W.max_tuple_datum (x := x) (xs := ns) (I.ok.hd hc) hl (by simpa using H2) (by show X.A.units + 1 + 0 < cLine; omega) fun i v h' tk hv hol hk => ?_
      rw [maxOf_lmax] at hol
      obtain ⟨t, rfl⟩ := PySem.W.int_of_holds hol
      have : maxDT [.tuple ((x :: ns).map PyData.int)] = .int (lmax (x :: ns)) := by simp only [maxDT, hn, Option.getD_some]
      rw [this] at k
      exact ⟨.int _, H, I.kept hk, ⟨_, rfl⟩, k _ H F (Grow.refl e) (.int _)⟩
section
variable {K : PySem.W.Frag} {s s1 : S} {ta : TE} {ms : List Int}
theorem ev_maxT (h : Ev K ta s (.tuple (ms.map PyData.int)) s1) (hn : ms ≠ []) : Ev K (tCB (rDn K mmOkT maxDT) (tCons ta tNil)) s (.int (lmax ms)) s1 := by
  refine (ev_cb (ea_cons h ea_nil) ⟨by simpa using hn, by rw [intsOf_map]; rfl⟩).to ?_
  show PyData.int (lmax ((intsOf (ms.map PyData.int)).getD [])) = _
  rw [intsOf_map]; rfl
end
end DL

namespace L2
open PySem PySem.Spec PyProof.Rows
section
variable {prog : Program} {w : World} {A : Around} {E : Value → Shared → Prop} {s : Shared}
theorem sliceApplied_rev {sl : Addr} {st : Value} {n : Nat} {Q : Int × Int × Nat → Shared → Prop} (hs : s.heap.IsSliceOf sl .none .none st) (ps : IsPart st (some (-1)))
    (h : Q ((n : Int) - 1, -1, n) s) : wpAny (model prog w) A (Builtin.Slice.sliceApplied (.ref sl) (pure (n : Int))) Q E s := by
  obtain ⟨os, hos, hcs, hds⟩ := id hs
  unfold Builtin.Slice.sliceApplied Builtin.Slice.sliceFields
  refine wpAny_bind (wpAny_bind (wpAny_field hos hds (x := .none) rfl (wpAny_bind (wpAny_field hos hds (x := .none) rfl (wpAny_bind (wpAny_field hos hds (x := st) rfl (wpAny_pure ?_)))))))
  refine wpAny_bind (HT.slicePart_ ps ?_)
  show wpAny _ _ (if ((-1 : Int) == 0) = true then _ else _) _ _ s
  rw [if_neg (by decide)]
  refine wpAny_bind (HT.slicePart_ .none (wpAny_bind (HT.slicePart_ .none (wpAny_bind (wpAny_pure ?_)))))
  show wpAny _ _ (pure ((n : Int) - 1, (-1 : Int), Builtin.Slice.slicePlaces ((n : Int) - 1) (-1) (-1))) _ _ s
  have e : Builtin.Slice.slicePlaces ((n : Int) - 1) (-1) (-1) = n := by
    unfold Builtin.Slice.slicePlaces
    rw [if_neg (by decide)]
    by_cases z : n = 0
    · subst z; rfl
    · rw [if_pos (by omega)]
      have : ((n : Int) - 1 - -1 - 1) / (- -1) = (n : Int) - 1 := by
        rw [show (- -1 : Int) = 1 by decide, Int.ediv_one]; omega
      rw [this]; omega
  rw [e]
  exact wpAny_pure h
theorem pick_rev (xs : Array Value) : ((List.range xs.size).filterMap fun (m : Nat) => xs[(((xs.size : Int) - 1) + (m : Int) * (-1)).toNat]?).toArray = xs.toList.reverse.toArray := by
  congr 1
  by_cases z : xs.size = 0
  · rw [z]
    have : xs.toList = [] := List.eq_nil_of_length_eq_zero (by rw [Array.length_toList]; exact z)
    rw [this]; rfl
  · have e : (fun (m : Nat) => xs[(((xs.size : Int) - 1) + (m : Int) * (-1)).toNat]?) = (fun (i : Nat) => xs[i]?) ∘ fun m => xs.size - 1 - m := by
      funext m
      show xs[(((xs.size : Int) - 1) + (m : Int) * (-1)).toNat]? = xs[xs.size - 1 - m]?
      congr 1
      omega
    rw [e, ← List.filterMap_map, PySem.W.krv_range, List.filterMap_reverse, PySem.W.krv_all]
theorem getItem_tuple_rev {t sl : Addr} {items : Array Value} {st : Value} {Q : Value → Shared → Prop} (ht : IsTup s.heap t items) (hs : s.heap.IsSliceOf sl .none .none st) (ps : IsPart st (some (-1)))
    (h : Q (.ref s.heap.objs.size) { s with heap := s.heap.push { cls := .type "tuple", data := .seq items.toList.reverse.toArray } })
    (hsz : items.size ≤ sizeLine) : wpAny (model prog w) A (getItem (.ref t) (.ref sl)) Q E s := by
  have htake : sizeOk (.seq items.toList.reverse.toArray) := by
    show items.toList.reverse.toArray.size ≤ sizeLine
    rw [List.size_toArray, List.length_reverse, Array.length_toList]
    exact hsz
  obtain ⟨os, hos, hcs, hds⟩ := id hs
  have hTs : s.TypeIs (.ref sl) "slice" := ⟨os, hos, hcs⟩
  unfold getItem
  try with_reducible refine wpAny_holding ?_
  first | refine wpAny_bind (wpAny_pure ?_) | skip
  refine wpAny_bind (wpAny_sequenceKey ht.typeIs (by decide) ?_)
  refine wpAny_bind (wpAny_callSpecial?_slot (name := Str.ofString "__getitem__") ht.typeIs PyProof.Rows.slot_tuple_getitem
    (wpAny_call_entry PyProof.Rows.slot_tuple_getitem ht.typeIs entry_tuple_getitem ?_ (args_tuple_getitem _ _)))
  show wpAny _ _ (Builtin.Tuple.tupleItemsOf (.ref t) >>= _) _ _ s
  refine wpAny_bind (tupleItemsOf_ ht ?_)
  refine wpAny_bind (wpAny_typeOf hTs ?_)
  rw [if_pos (by decide)]
  refine wpAny_bind (sliceApplied_rev hs ps ?_)
  have hno : ¬ ((((items.size : Int) - 1) == 0 && (-1 : Int) == 1 && items.size == items.size) = true) := by
    intro q
    rw [Bool.and_eq_true, Bool.and_eq_true] at q
    exact absurd (eq_of_beq q.1.2) (by decide)
  show wpAny _ _ (if (((items.size : Int) - 1) == 0 && (-1 : Int) == 1 && items.size == items.size) = true then _ else _) _ _ s
  rw [if_neg hno, pick_rev]
  first
    | exact wpAny_bind (m := Builtin.Tuple.tupleExact _) (wpAny_newObj_type (wpAny_pure ⟨_, rfl, wpAny_pure h⟩) htake)
    | exact wpAny_bind (m := Builtin.Tuple.tupleExact _) (wpAny_newObj_type (wpAny_bind (wpAny_pure (wpAny_pure ⟨_, rfl, wpAny_pure h⟩))) htake)
    | exact wpAny_bind (wpAny_bind (m := Builtin.Tuple.tupleExact _) (wpAny_newObj_type (wpAny_pure (wpAny_pure ⟨_, rfl, wpAny_pure h⟩)) htake))
    | exact wpAny_bind (wpAny_bind (m := Builtin.Tuple.tupleExact _) (wpAny_newObj_type (wpAny_pure ⟨_, rfl, wpAny_pure h⟩) htake))
end
section
variable {X : Cx}
/-- t[::-1] -/
def tRevT (K : PySem.W.Frag) (te : TE) : TE := fun σ H Q => te σ H fun x H1 => ∃ a xs, x = .ref a ∧ SqT K H1 a xs ∧ ∀ p, H1 p = none → Q (.ref p) (upd H1 p (.tup xs.reverse))
theorem pe_revT {e : Expr} {te : TE} {k : Nat} {p1 p2 p3 pos : Pos} (he : PE X e te) : PE X (.Subscript e (.Slice none none (some (.UnaryOp .USub (.Constant (.int 1) k p1) p2)) p3) pos) (tRevT X.K te) := by
  refine ⟨fun pins s σ H Q I h => ?_⟩
  refine Subscript_ (thn (he.run pins s σ H _ I h) fun v s1 ⟨x, H1, I1, r1, q1⟩ => ?_)
  obtain ⟨a, xs, ex, hx, q⟩ := q1
  subst ex
  cases r1
  have hst : PO X (some (.UnaryOp .USub (.Constant (.int 1) k p1) p2)) (tPart (tUn (rU fun i => .int (-i)) (tC (.int 1)))) := po_some (pe_un un_neg pe_int)
  refine wpAny_Slice (thn (po_none.run pins s1 σ H1 (fun o H2 => o = none ∧ H2 = H1) I1 ⟨rfl, rfl⟩) fun vl s2 ⟨l, H2, I2, pl, el, e2⟩ => ?_)
  subst el e2
  refine thn (po_none.run pins s2 σ H2 (fun o H3 => o = none ∧ H3 = H2) I2 ⟨rfl, rfl⟩) fun vu s3 ⟨u, H3, I3, pu, eu, e3⟩ => ?_
  subst eu e3
  refine thn (hst.run pins s3 σ H3 (fun o H4 => o = some (-1) ∧ H4 = H3) I3 ⟨1, rfl, -1, rfl, rfl, rfl⟩) fun vs s4 ⟨o, H4, I4, ps, eo, e4⟩ => ?_
  subst eo e4
  have I5 : Inv X pins σ H4 { s4 with heap := s4.heap.push { cls := .type "slice", data := .fields #[vl, vu, vs] } } := I4.kept (t' := s4.toks) fun b ob q => Heap.get?_push_of_some _ q
  obtain ⟨its, r, ht, hz⟩ := I5.tuple hx
  have hlen := r.length
  show wpAny (model X.prog X.w) X.A (subscriptTail e (.Slice none none (some (.UnaryOp .USub (.Constant (.int 1) k p1) p2)) p3) (.ref a) (.ref s4.heap.objs.size)) (EP X pins σ Q) X.xe { s4 with heap := s4.heap.push { cls := .type "slice", data := .fields #[vl, vu, vs] } }
  refine tail_any (ops := [.ref a, .ref s4.heap.objs.size]) ht.typeIs (PyProof.Rows.slot_tuple_getitem.lookup) ?_ (by with_unfolding_all rfl)
  cases pl
  cases pu
  refine getItem_tuple_rev ht (Heap.IsSliceOf.new _ .none .none vs) ps ?_ (by rw [List.size_toArray]; omega)
  refine ⟨.ref _, _, I5.laid (t' := s4.toks) (o := .tup xs.reverse) (fun b ob q => Heap.get?_push_of_some _ q) (Nat.le_refl _) ?_, rfl, q _ (I5.hok.fresh (Nat.le_refl _))⟩
  exact ⟨by rw [List.length_reverse]; exact hz, _, r.reverse, ⟨_, Heap.get?_push_size _ rfl, rfl, 0, rfl⟩⟩
end
end L2
namespace DL
open PySem PySem.Spec PyProof.Rows L2
section
variable {K : PySem.W.Frag} {s s1 : S} {te : TE} {ds : List D}
theorem AtAll.reverse {F : Hp} : ∀ {vs : List V} {ds : List D}, AtAll K F vs ds → AtAll K F vs.reverse ds.reverse
  | _, _, .nil => .nil
  | _, _, .cons h t => by rw [List.reverse_cons, List.reverse_cons]; exact (AtAll.reverse t).snoc h
theorem ev_revT (h : Ev K te s (.tuple ds) s1) : Ev K (tRevT K te) s (.tuple ds.reverse) s1 := fun σ H F fp E Q q =>
  h σ H F fp E _ fun v H1 F1 fp1 E1 st1 a1 => by
    cases a1 with
    | @tup a vs _ hs ha =>
      refine ⟨_, _, rfl, E1.ex.sqT hs, fun p hp => ?_⟩
      have g : Grow F1 H1 (upd F1 p (.tup vs.reverse)) (upd H1 p (.tup vs.reverse)) := Grow.laid E1.ex hp
      exact q _ _ _ fp1 (E1.grow g) (st1.trans (E1.growS g)) (.tup (.inl (.inl upd_same)) (ha.reverse.ex g.f))
theorem ev_revL (h : Ev K te s (.list ds) s1) : Ev K (tRevL K te) s (.list ds.reverse) s1 := fun σ H F fp E Q q =>
  h σ H F fp E _ fun v H1 F1 fp1 E1 st1 a1 => by
    cases a1 with
    | @lst a vs _ hs ha =>
      refine ⟨_, _, rfl, .inl (.inl (E1.ex _ _ hs)), fun p hp => ?_⟩
      have g : Grow F1 H1 (upd F1 p (.lst vs.reverse)) (upd H1 p (.lst vs.reverse)) := Grow.laid E1.ex hp
      exact q _ _ _ fp1 (E1.grow g) (st1.trans (E1.growS g)) (.lst upd_same (ha.reverse.ex g.f))
end
theorem cut_map {α β : Type} (f : α → β) (xs : List α) (lo hi : Option Int) : cutL (xs.map f) lo hi = (cutL xs lo hi).map f := by
  unfold cutL
  rw [List.length_map, ← List.map_drop, ← List.map_take]
theorem cut_len {α : Type} (xs : List α) (lo hi : Option Int) : (cutL xs lo hi).length ≤ xs.length := by
  unfold cutL
  rw [List.length_take, List.length_drop]
  omega
end DL

namespace CM
open PySem PySem.Spec PyProof.Rows L2 DL
/-! ### the choices of a plan, a dict -/
structure PL where
  rows : Int
  lamps : Int
  crews : Int
  work : Int
  every : Int
  early : Int
  sync : Int
  burst : Int
  gap : Int
  trips : Int
  drift : Int
  cloud : Int
  most : Int
  fixed : Int
  spare : Int
def plKV (p : PL) : List (D × D) := [(.str "rows", .int p.rows), (.str "lamps", .int p.lamps), (.str "crews", .int p.crews), (.str "work", .int p.work), (.str "every", .int p.every), (.str "early", .int p.early), (.str "sync", .int p.sync), (.str "burst", .int p.burst), (.str "gap", .int p.gap), (.str "trips", .int p.trips), (.str "drift", .int p.drift), (.str "cloud", .int p.cloud), (.str "most", .int p.most), (.str "fixed", .int p.fixed), (.str "spare", .int p.spare)]
def plD (p : PL) : D := .dict (plKV p)
theorem pl_rows {p : PL} : dlook (plKV p) (.inr "rows") = some (.int p.rows) := by kernel_rfl
theorem pl_lamps {p : PL} : dlook (plKV p) (.inr "lamps") = some (.int p.lamps) := by kernel_rfl
theorem pl_crews {p : PL} : dlook (plKV p) (.inr "crews") = some (.int p.crews) := by kernel_rfl
theorem pl_work {p : PL} : dlook (plKV p) (.inr "work") = some (.int p.work) := by kernel_rfl
theorem pl_every {p : PL} : dlook (plKV p) (.inr "every") = some (.int p.every) := by kernel_rfl
theorem pl_early {p : PL} : dlook (plKV p) (.inr "early") = some (.int p.early) := by kernel_rfl
theorem pl_sync {p : PL} : dlook (plKV p) (.inr "sync") = some (.int p.sync) := by kernel_rfl
theorem pl_burst {p : PL} : dlook (plKV p) (.inr "burst") = some (.int p.burst) := by kernel_rfl
theorem pl_gap {p : PL} : dlook (plKV p) (.inr "gap") = some (.int p.gap) := by kernel_rfl
theorem pl_trips {p : PL} : dlook (plKV p) (.inr "trips") = some (.int p.trips) := by kernel_rfl
theorem pl_drift {p : PL} : dlook (plKV p) (.inr "drift") = some (.int p.drift) := by kernel_rfl
theorem pl_cloud {p : PL} : dlook (plKV p) (.inr "cloud") = some (.int p.cloud) := by kernel_rfl
theorem pl_most {p : PL} : dlook (plKV p) (.inr "most") = some (.int p.most) := by kernel_rfl
theorem pl_fixed {p : PL} : dlook (plKV p) (.inr "fixed") = some (.int p.fixed) := by kernel_rfl
theorem pl_spare {p : PL} : dlook (plKV p) (.inr "spare") = some (.int p.spare) := by kernel_rfl
/-- the dice behind the first k rolls -/
def rolls (l : List Int) (d : Dice) (k : Nat) : Dice := (l.take k).foldl CM.rd d
theorem rolls_ok {n : Int} {d : Dice} {l : List Int} (h : DOk n d) : ∀ k : Nat, DOk (n + k) (rolls l d k) := by
  intro k
  have key : ∀ (m : List Int) (n : Int) (d : Dice), DOk n d → DOk (n + m.length) (m.foldl CM.rd d) := by
    intro m
    induction m with
    | nil => intro n d h; exact h.up (by simp)
    | cons x m ih => intro n d h; exact (ih (n + 1) _ h.rd).up (by simp; omega)
  refine (key (l.take k) n d h).up ?_
  rw [List.length_take]
  omega
def ofInt : D → Int
  | .int n => n
  | _ => 0
/-- what is drawn small -/
def chD (d : Dice) (k : Nat) : Dice := rolls [4, 3, 3, 5, 5, 14, 3, 4, 5, 6, 3, 6, 14, 22, 30] d k
def chP (d : Dice) : PL := ⟨ofInt (pick d [.int 1, .int 2, .int 2, .int 3]), 1 + rv (chD d 1) 3, 1 + rv (chD d 2) 3, 1 + rv (chD d 3) 5, 1 + rv (chD d 4) 5, rv (chD d 5) 14, 1 + rv (chD d 6) 3, 1 + rv (chD d 7) 4, 1 + rv (chD d 8) 5, ofInt (pick (chD d 9) [.int 0, .int 0, .int 1, .int 1, .int 2, .int 3]), rv (chD d 10) 3, rv (chD d 11) 6, rv (chD d 12) 14, rv (chD d 13) 22, rv (chD d 14) 30⟩
/-- what is drawn from the whole table -/
def wdD (d : Dice) (k : Nat) : Dice := rolls [3, 4, 4, 12, 12, 61, 10, 6, 12, 4, 6, 31, 101, 30, 2, 101, 40, 2, 201] d k
def wdP (d : Dice) : PL := ⟨1 + rv (wdD d 0) 3, 1 + rv (wdD d 1) 4, 1 + rv (wdD d 2) 4, 1 + rv (wdD d 3) 12, 1 + rv (wdD d 4) 12, rv (wdD d 5) 61, 1 + rv (wdD d 6) 10, 1 + rv (wdD d 7) 6, 1 + rv (wdD d 8) 12, rv (wdD d 9) 4, rv (wdD d 10) 6, rv (wdD d 11) 31,
  ofInt (pick (wdD d 14) [.int (rv (wdD d 12) 101), .int (rv (wdD d 13) 30)]), ofInt (pick (wdD d 17) [.int (rv (wdD d 15) 101), .int (rv (wdD d 16) 40)]), rv (wdD d 18) 201⟩
/-- choices that the table lets -/
structure POk (p : PL) : Prop where
  rows : 1 ≤ p.rows ∧ p.rows ≤ 3
  lamps : 1 ≤ p.lamps ∧ p.lamps ≤ 4
  crews : 1 ≤ p.crews ∧ p.crews ≤ 4
  work : 1 ≤ p.work ∧ p.work ≤ 12
  every : 1 ≤ p.every ∧ p.every ≤ 12
  early : 0 ≤ p.early ∧ p.early ≤ 60
  sync : 1 ≤ p.sync ∧ p.sync ≤ 10
  burst : 1 ≤ p.burst ∧ p.burst ≤ 6
  gap : 1 ≤ p.gap ∧ p.gap ≤ 12
  trips : 0 ≤ p.trips ∧ p.trips ≤ 3
  drift : 0 ≤ p.drift ∧ p.drift ≤ 5
  cloud : 0 ≤ p.cloud ∧ p.cloud ≤ 30
  most : 0 ≤ p.most ∧ p.most ≤ 100
  fixed : 0 ≤ p.fixed ∧ p.fixed ≤ 100
  spare : 0 ≤ p.spare ∧ p.spare ≤ 200
theorem pick4 {d : Dice} : pick d [.int 1, .int 2, .int 2, .int 3] = .int (ofInt (pick d [.int 1, .int 2, .int 2, .int 3])) ∧ 1 ≤ ofInt (pick d [.int 1, .int 2, .int 2, .int 3]) ∧ ofInt (pick d [.int 1, .int 2, .int 2, .int 3]) ≤ 3 := by
  have h := pick_mem (d := d) (xs := [.int 1, .int 2, .int 2, .int 3]) (List.cons_ne_nil _ _)
  generalize pick d [.int 1, .int 2, .int 2, .int 3] = y at h ⊢
  simp only [List.mem_cons, List.not_mem_nil, or_false] at h
  rcases h with h | h | h | h <;> subst h <;> exact ⟨rfl, by decide, by decide⟩
theorem pick6 {d : Dice} : pick d [.int 0, .int 0, .int 1, .int 1, .int 2, .int 3] = .int (ofInt (pick d [.int 0, .int 0, .int 1, .int 1, .int 2, .int 3])) ∧ 0 ≤ ofInt (pick d [.int 0, .int 0, .int 1, .int 1, .int 2, .int 3]) ∧ ofInt (pick d [.int 0, .int 0, .int 1, .int 1, .int 2, .int 3]) ≤ 3 := by
  have h := pick_mem (d := d) (xs := [.int 0, .int 0, .int 1, .int 1, .int 2, .int 3]) (List.cons_ne_nil _ _)
  generalize pick d [.int 0, .int 0, .int 1, .int 1, .int 2, .int 3] = y at h ⊢
  simp only [List.mem_cons, List.not_mem_nil, or_false] at h
  rcases h with h | h | h | h | h | h <;> subst h <;> exact ⟨rfl, by decide, by decide⟩
theorem pick2 {d : Dice} {a b m : Int} (ha : 0 ≤ a ∧ a ≤ m) (hb : 0 ≤ b ∧ b ≤ m) : pick d [.int a, .int b] = .int (ofInt (pick d [.int a, .int b])) ∧ 0 ≤ ofInt (pick d [.int a, .int b]) ∧ ofInt (pick d [.int a, .int b]) ≤ m := by
  have h := pick_mem (d := d) (xs := [.int a, .int b]) (List.cons_ne_nil _ _)
  generalize pick d [.int a, .int b] = y at h ⊢
  simp only [List.mem_cons, List.not_mem_nil, or_false] at h
  rcases h with h | h <;> subst h
  · exact ⟨rfl, ha⟩
  · exact ⟨rfl, hb⟩
theorem chP_ok (d : Dice) : POk (chP d) := by
  have r := fun (d : Dice) (t : Int) (h : 0 < t) => And.intro (rv0 (d := d) h) (rv1 (d := d) h)
  have h0 := (pick4 (d := d)).2
  have h1 := r (chD d 1) 3 (by decide); have h2 := r (chD d 2) 3 (by decide); have h3 := r (chD d 3) 5 (by decide); have h4 := r (chD d 4) 5 (by decide)
  have h5 := r (chD d 5) 14 (by decide); have h6 := r (chD d 6) 3 (by decide); have h7 := r (chD d 7) 4 (by decide); have h8 := r (chD d 8) 5 (by decide)
  have h9 := (pick6 (d := chD d 9)).2; have h10 := r (chD d 10) 3 (by decide); have h11 := r (chD d 11) 6 (by decide); have h12 := r (chD d 12) 14 (by decide)
  have h13 := r (chD d 13) 22 (by decide); have h14 := r (chD d 14) 30 (by decide)
  constructor <;> simp only [chP] <;> omega
theorem wdP_ok (d : Dice) : POk (wdP d) := by
  have r := fun (d : Dice) (t : Int) (h : 0 < t) => And.intro (rv0 (d := d) h) (rv1 (d := d) h)
  have h0 := r (wdD d 0) 3 (by decide); have h1 := r (wdD d 1) 4 (by decide); have h2 := r (wdD d 2) 4 (by decide); have h3 := r (wdD d 3) 12 (by decide); have h4 := r (wdD d 4) 12 (by decide)
  have h5 := r (wdD d 5) 61 (by decide); have h6 := r (wdD d 6) 10 (by decide); have h7 := r (wdD d 7) 6 (by decide); have h8 := r (wdD d 8) 12 (by decide)
  have h9 := r (wdD d 9) 4 (by decide); have h10 := r (wdD d 10) 6 (by decide); have h11 := r (wdD d 11) 31 (by decide)
  have h12 := r (wdD d 12) 101 (by decide); have h13 := r (wdD d 13) 30 (by decide); have h15 := r (wdD d 15) 101 (by decide); have h16 := r (wdD d 16) 40 (by decide); have h18 := r (wdD d 18) 201 (by decide)
  have k1 := (pick2 (d := wdD d 14) (a := rv (wdD d 12) 101) (b := rv (wdD d 13) 30) (m := 100) (by omega) (by omega)).2
  have k2 := (pick2 (d := wdD d 17) (a := rv (wdD d 15) 101) (b := rv (wdD d 16) 40) (m := 100) (by omega) (by omega)).2
  constructor <;> simp only [wdP] <;> omega
theorem chD_ok {n : Int} {d : Dice} (h : DOk n d) (k : Nat) : DOk (n + k) (chD d k) := rolls_ok h k
theorem wdD_ok {n : Int} {d : Dice} (h : DOk n d) (k : Nat) : DOk (n + k) (wdD d k) := rolls_ok h k
end CM

/-! sorting of tuples of ints, of any lengths -/
namespace SrtT
open PySem PySem.W PyProof.Rows SrtO
theorem ins_items : ∀ {vs : List Value} {ns : List Int} (i : Nat), IntsAre vs ns → tupItems (fun _ => false) i vs = some (ns.map Sum.inl)
  | _, _, _, .nil => rfl
  | _, _, i, .cons n t r => by
    unfold tupItems
    rw [if_neg Bool.false_ne_true, ins_items (i + 1) r]
    rfl
theorem lex_ints : ∀ as bs : List Int, lexLt itemOrd (as.map Sum.inl) (bs.map Sum.inl) = HT.lexLt as bs
  | [], [] => rfl
  | [], _ :: _ => rfl
  | _ :: _, [] => rfl
  | a :: as, b :: bs => by
    rw [HT.lexLt_cons]
    show lexLt itemOrd (Sum.inl a :: as.map Sum.inl) (Sum.inl b :: bs.map Sum.inl) = _
    by_cases e : a = b
    · subst e
      rw [if_pos rfl, lex_self, lex_ints as bs]
    · rw [if_neg e, lex_diff (fun z => e (Sum.inl.inj z))]
      rfl
/-- v is a tuple of these ints -/
def IsTI (h : Heap) (v : Value) (ns : List Int) : Prop := ∃ a o xs n, v = .ref a ∧ h.get? a = some o ∧ o.cls = .type "tuple" ∧ o.data = .seq xs n ∧ IntsAre xs.toList ns
theorem IsTI.keeps {h h' : Heap} {v : Value} {ns : List Int} (x : IsTI h v ns) (k : ∀ a o, v = .ref a → h.get? a = some o → h'.get? a = some o) : IsTI h' v ns := by
  obtain ⟨a, o, xs, n, e, ho, hc, hd, hi⟩ := x
  exact ⟨a, o, xs, n, e, k a o e ho, hc, hd, hi⟩
theorem IsTI.key {h : Heap} {v : Value} {ns : List Int} (x : IsTI h v ns) : (tupKind h fun _ => false).keyOf v = some (ns.map Sum.inl) := by
  obtain ⟨a, o, xs, n, rfl, ho, hc, hd, hi⟩ := x
  show tupKey h _ (.ref a) = _
  unfold tupKey
  simp only [ho, hd]
  exact ins_items 0 hi
theorem IsTI.of {h : Heap} {v : Value} {n : Int} {ns : List Int} (x : IsTI h v (n :: ns)) : ∃ f, TupOf h (fun _ => false) v f := by
  obtain ⟨a, o, xs, m, rfl, ho, hc, hd, hi⟩ := x
  obtain ⟨t, ht⟩ := hi.get 0 n rfl
  exact ⟨.int n t, a, o, xs, m, rfl, ho, hc, hd, by simpa using ht, fun _ => ⟨n, t, rfl⟩, fun z => nomatch z⟩
theorem tups_of {h : Heap} {k : Value → List Int} : ∀ {vs : List Value}, (∀ v ∈ vs, IsTI h v (k v) ∧ k v ≠ []) → ∃ fs, TupsOf h (fun _ => false) vs fs ∧ fs.length = vs.length
  | [], _ => ⟨[], .nil, rfl⟩
  | v :: vs, hv => by
    obtain ⟨fs, h1, h2⟩ := tups_of (vs := vs) fun u hu => hv u (List.mem_cons_of_mem _ hu)
    obtain ⟨h3, h4⟩ := hv v List.mem_cons_self
    cases e : k v with
    | nil => exact absurd e h4
    | cons n ns =>
      rw [e] at h3
      obtain ⟨f, hf⟩ := h3.of
      exact ⟨f :: fs, .cons hf h1, by simp [h2]⟩
section
variable {prog : Program} {w : World} {A : Around} {s : Shared}
theorem ti_cmp {vs : List Value} {k : Value → List Int} (b : Bool) (hv : ∀ v ∈ vs, IsTI s.heap v (k v)) : SrtO.Cmp prog w A s (tuples' b) (fun p => p.1 ∈ vs) (SrtO.lt2 fun v u => HT.lexLt (k v) (k u)) := by
  intro p q hp hq
  refine tup_ltAt (shape := fun _ => false) b A _ p.1 q.1 _ _ (hv p.1 hp).key (hv q.1 hq).key ⟨rfl, ?_⟩
  exact lex_ints (k p.1) (k q.1)
/-- none of them empty -/
theorem ti_sortable {a : Addr} {vs : List Value} {k : Value → List Int} (h2 : 2 ≤ vs.length) (hv : ∀ v ∈ vs, IsTI s.heap v (k v) ∧ k v ≠ []) (ha : ∀ v ∈ vs, v ≠ .ref a) : SrtO.SortableO prog w A s a vs fun v u => HT.lexLt (k v) (k u) := by
  intro h' keep
  have hv' : ∀ v ∈ vs, IsTI h' v (k v) ∧ k v ≠ [] := fun v hm => ⟨(hv v hm).1.keeps fun b o e g => keep b o (fun z => ha v hm (by rw [e, z])) g, (hv v hm).2⟩
  obtain ⟨fs, hf, hl⟩ := tups_of hv'
  refine ⟨tuples' true, fun Q E hq => ?_, ti_cmp (s := { s with heap := h' }) true fun v hm => (hv' v hm).1⟩
  exact tup_kind (s := { s with heap := h' }) (by omega) hf hq
end
end SrtT

/-! sorting of tuples of ints, the empty one among them -/
namespace SrtT
open PySem PySem.W PyProof.Rows SrtO
section
variable {M : Model} {A : Around} {E : Value → Shared → Prop} {s : Shared}
theorem mapM_some {α β : Type} {f : α → Sem β} : ∀ (l : List α) {Q : List β → Shared → Prop}, (∀ v ∈ l, ∃ b, ∀ (Q' : β → Shared → Prop), Q' b s → wpAny M A (f v) Q' E s) → (∀ bs, Q bs s) → wpAny M A (l.mapM f) Q E s
  | [], _, _, h => by rw [List.mapM_nil]; exact wpAny_pure (h [])
  | x :: l, Q, hf, h => by
    rw [List.mapM_cons]
    obtain ⟨b, hb⟩ := hf x (.head _)
    exact wpAny_bind (hb _ (wpAny_bind (mapM_some l (Q := fun bs s' => wpAny M A (pure (b :: bs)) Q E s') (fun v hv => hf v (.tail _ hv)) fun bs => wpAny_pure (h _))))
theorem IsTI.type {v : Value} {ns : List Int} (x : IsTI s.heap v ns) : Looks M s.heap (typeOf v) (.type "tuple") := by
  obtain ⟨a, o, xs, n, rfl, ho, hc, hd, hi⟩ := x
  rw [← hc]
  exact (Looks.ld ho).andThen .now
theorem IsTI.first {v : Value} {ns : List Int} (x : IsTI s.heap v ns) : ∃ b : Option Value, (ns = [] → b = none) ∧ ∀ Q' : Option Value → Shared → Prop, Q' b s → wpAny M A (firstOfTuple' v) Q' E s := by
  have ht : Looks M s.heap (typeOf v) (.type "tuple") := x.type
  obtain ⟨a, o, xs, n, rfl, ho, hc, hd, hi⟩ := x
  refine ⟨xs[0]?, fun e => ?_, fun Q' hq => ?_⟩
  · subst e
    have : xs.toList = [] := by cases h : xs.toList with
      | nil => rfl
      | cons y ys => rw [h] at hi; cases hi
    have e2 : xs = #[] := by cases xs; simp at this; subst this; rfl
    rw [e2]; rfl
  · rw [PySem.W.kas_first_eq]
    refine wpAny_bind (ht.here ?_)
    rw [if_neg (by first | decide | simp)]
    exact wpAny_bind (listItems_at ho hd (wpAny_pure hq))
/-- the first of them is empty -/
theorem kind_hd {v0 : Value} {vs : List Value} {k : Value → List Int} {Q : SortKind → Shared → Prop} (hk : k v0 = []) (hv : ∀ v ∈ v0 :: vs, IsTI s.heap v (k v)) (h : Q oneType' s) : wpAny M A (keyKind' (v0 :: vs).toArray) Q E s := by
  rw [kat_kind_eq, List.mapM_toArray, map_eq_pure_bind, List.mapM_cons]
  obtain ⟨b, hb, hw⟩ := (hv v0 (.head _)).first (M := M) (A := A) (E := E)
  obtain rfl := hb hk
  refine wpAny_bind (wpAny_bind (wpAny_bind (hw _ (wpAny_bind (mapM_some vs (fun v hm => ?_) fun bs => ?_)))))
  · obtain ⟨b, _, hw⟩ := (hv v (.tail _ hm)).first (M := M) (A := A) (E := E)
    exact ⟨b, hw⟩
  · refine wpAny_pure (wpAny_pure ?_)
    rw [if_neg (by simp), if_neg (by simp)]
    rw [oneTypeOnly'_eq, List.mapM_toArray, map_eq_pure_bind]
    refine wpAny_bind (wpAny_bind (wpAny_bind (PySem.W.kas_mapM (r := Value.type "tuple") _ (fun v hm Q' hq => (hv v hm).type.here hq) (wpAny_pure ?_))))
    have hall : ((List.map (fun _ => Value.type "tuple") (v0 :: vs)).toArray.all fun x => x == Value.type "tuple") = true := by
      simp only [List.all_toArray, List.all_map, List.all_eq_true]
      intro _ _
      rfl
    have h0 : (List.map (fun _ => Value.type "tuple") (v0 :: vs)).toArray[0]? = some (Value.type "tuple") := by simp
    rw [h0]
    simp only [hall, if_true]
    exact wpAny_pure (wpAny_pure h)
end
section
variable {prog : Program} {w : World} {A : Around} {E : Value → Shared → Prop} {s : Shared}
theorem lt_one {v u : Value} {ns ms : List Int} {Q : Bool → Shared → Prop} (hu : A.units < cLine) (hv : IsTI s.heap v ns) (hw : IsTI s.heap u ms) (h : Q (HT.lexLt ns ms) s) : wpAny (model prog w) A (keyLt' oneType' v u) Q E s := by
  obtain ⟨a, ⟨cls, dd, data, sl⟩, xs, n, rfl, ga, rfl, rfl, ia⟩ := hv
  obtain ⟨b, ⟨cls2, dd2, data2, sl2⟩, ys, m, rfl, gb, rfl, rfl, ib⟩ := hw
  rw [keyLt'_oneType, oneLt'_eq]
  simp only [if_true]
  refine wpAny_bind (wpAny_cRoomFor hu ?_)
  refine wpAny_bind (wpAny_callSpecialIfBound?_slot (T := "tuple") ⟨_, ga, rfl⟩ PySem.F.slot_tuple_lt ?_)
  refine call_meets PySem.F.slot_tuple_lt ⟨_, ga, rfl⟩ PySem.F.entry_tuple_lt (PySem.F.args_tuple_lt_2 _ _) (NtL.nt_lt_ints a b _ _ xs ys n m dd dd2 sl sl2 ns ms ia ib) ⟨ga, gb, fun M => ?_, ?_⟩
  · exact ((Looks.ld gb).andThen .now).andThen (.of_pure rfl)
  · exact wpAny_truthy_bool h
theorem one_cmp {vs : List Value} {k : Value → List Int} (hu : A.units < cLine) (hv : ∀ v ∈ vs, IsTI s.heap v (k v)) : SrtO.Cmp prog w A s oneType' (fun p => p.1 ∈ vs) (SrtO.lt2 fun v u => HT.lexLt (k v) (k u)) := fun p q hp hq =>
  lt_one (Q := fun r s' => s' = s ∧ r = HT.lexLt (k p.1) (k q.1)) (E := fun _ _ => False) hu (hv p.1 hp) (hv q.1 hq) ⟨rfl, rfl⟩
theorem ti_sortable1 {a : Addr} {v0 : Value} {vs : List Value} {k : Value → List Int} (hu : A.units < cLine) (hk : k v0 = []) (hv : ∀ v ∈ v0 :: vs, IsTI s.heap v (k v)) (ha : ∀ v ∈ v0 :: vs, v ≠ .ref a) : SrtO.SortableO prog w A s a (v0 :: vs) fun v u => HT.lexLt (k v) (k u) := by
  intro h' keep
  have hv' : ∀ v ∈ v0 :: vs, IsTI h' v (k v) := fun v hm => (hv v hm).keeps fun b o e g => keep b o (fun z => ha v hm (by rw [e, z])) g
  exact ⟨oneType', fun Q E hq => kind_hd (s := { s with heap := h' }) hk hv' hq, one_cmp (s := { s with heap := h' }) hu hv'⟩
end
/-- the ints of the tuple at v -/
def ivs : List Value → List Int
  | [] => []
  | .int n _ :: r => n :: ivs r
  | _ :: r => ivs r
def tiOf (h : Heap) : Value → List Int
  | .ref a => match h.get? a with
    | some o => (match o.data with
      | .seq xs _ => ivs xs.toList
      | _ => [])
    | none => []
  | _ => []
theorem ivs_of : ∀ {vs : List Value} {ns : List Int}, IntsAre vs ns → ivs vs = ns
  | _, _, .nil => rfl
  | _, _, .cons n t r => by show n :: ivs _ = _; rw [ivs_of r]
theorem IsTI.of_tiOf {h : Heap} {v : Value} {ns : List Int} (x : IsTI h v ns) : tiOf h v = ns := by
  obtain ⟨a, o, xs, n, rfl, ho, hc, hd, hi⟩ := x
  show (match h.get? a with | some o => (match o.data with | .seq xs _ => ivs xs.toList | _ => []) | none => []) = ns
  rw [ho]
  show (match o.data with | .seq xs _ => ivs xs.toList | _ => []) = ns
  rw [hd]
  exact ivs_of hi
end SrtT
namespace DL
open PySem PySem.Spec PyProof.Rows L2
theorem lexT_eq : ∀ {a b : List Int}, HT.lexLt a b = false → HT.lexLt b a = false → a = b
  | [], [], _, _ => rfl
  | [], b :: bs, h, _ => by rw [HT.lexLt_nil_cons] at h; cases h
  | a :: as, [], _, h => by rw [HT.lexLt_nil_cons] at h; cases h
  | a :: as, b :: bs, h1, h2 => by
    rw [HT.lexLt_cons] at h1 h2
    by_cases e : a = b
    · subst e
      rw [if_pos rfl] at h1 h2
      rw [lexT_eq h1 h2]
    · rw [if_neg e] at h1
      rw [if_neg (Ne.symm e)] at h2
      have := of_decide_eq_false h1
      have := of_decide_eq_false h2
      omega
def rowD (ns : List Int) : D := .tuple (ns.map PyData.int)
def unrow : D → List Int
  | .tuple ds => (intsOf ds).getD []
  | _ => []
@[simp] theorem unrow_rowD (ns : List Int) : unrow (rowD ns) = ns := by simp [unrow, rowD, intsOf_map]
theorem unrow_map (nss : List (List Int)) : (nss.map rowD).map unrow = nss := by
  rw [List.map_map]
  conv => rhs; rw [← List.map_id nss]
  exact List.map_congr_left fun x _ => unrow_rowD x
def leR (a b : List Int) : Bool := !HT.lexLt b a
def sortR (l : List (List Int)) : List (List Int) := l.mergeSort leR
theorem sortR_perm (l : List (List Int)) : (sortR l).Perm l := List.mergeSort_perm l leR
abbrev AscR (l : List (List Int)) : Prop := l.Pairwise fun a b => HT.lexLt b a = false
theorem sortR_sorted (l : List (List Int)) : AscR (sortR l) := by
  have h := List.pairwise_mergeSort (le := leR) (fun a b c h1 h2 => by
    simp only [leR, Bool.not_eq_true'] at *
    exact NtL.lex_tr _ _ _ h1 h2) (fun a b => by
    simp only [leR]
    cases h : HT.lexLt b a with
    | false => rfl
    | true => simp [NtL.lex_asym _ _ h]) l
  exact h.imp fun h => by simpa [leR] using h
theorem rows_unique : ∀ {l m : List (List Int)}, l.Perm m → AscR l → AscR m → l = m
  | [], m, h, _, _ => by rw [List.Perm.nil_eq h]
  | x :: l, [], h, _, _ => by simpa using h.length_eq
  | x :: l, y :: m, h, h1, h2 => by
    have hx : x ∈ y :: m := h.subset (List.mem_cons_self)
    have hy : y ∈ x :: l := h.symm.subset (List.mem_cons_self)
    have h1' := List.pairwise_cons.mp h1
    have h2' := List.pairwise_cons.mp h2
    have e : x = y := by
      rcases List.mem_cons.mp hx with e | hx
      · exact e
      · rcases List.mem_cons.mp hy with e | hy
        · exact e.symm
        · exact lexT_eq (h2'.1 x hx) (h1'.1 y hy)
    subst e
    rw [rows_unique (List.Perm.cons_inv h) h1'.2 h2'.2]
def sortOkT : List D → Prop
  | [.list ds] => ∃ nss : List (List Int), ds = nss.map rowD ∧ ((∀ ns ∈ nss, ns ≠ []) ∨ nss.head? = some [])
  | _ => False
def sortLT : List D → List D
  | [.list ds] => (sortR (ds.map unrow)).map rowD
  | _ => []
section
variable {X : Cx}
theorem row_ti {pins : List (Addr × Obj)} {s : Shared} {σ : L2.St} {F H : Hp} {v : V} {u : Value} {ns : List Int} (I : Inv X pins σ H s) (e : Ex F H) (h : At X.K F v (rowD ns)) (r : RelV v u) : SrtT.IsTI s.heap u ns := by
  unfold rowD at h
  cases h with
  | tup h t =>
    obtain rfl : u = .ref _ := r
    rw [t.ints] at h
    obtain ⟨its, rv, ho, hz⟩ := I.tuple (e.sqT h)
    obtain ⟨o, ho, hc, n, hd⟩ := ho
    exact ⟨_, o, its.toArray, n, rfl, ho, hc, hd, by simpa using rv.ints⟩
theorem call_sortT (hu : X.A.units + 65 < cLine) : CallR X (.builtin "sorted") (rDl X.K sortOkT sortLT) := by
  intro pins s σ H xs us Q I r ⟨F, ds, e, ha, ok, k⟩
  match ds, ok, ha with
  | [.list _], ⟨nss, rfl, hn⟩, .cons h1 .nil =>
    obtain ⟨p, vs, rfl, h2, h3⟩ := h1.lst e
    rw [Vals.ref1 r]
    obtain ⟨its, rv, hl, hz⟩ := I.list (show SqL X.K H p vs from .inl (.inl h2))
    obtain ⟨o, n, g1, g2, _, g3⟩ := hl
    have l1 : vs.length = its.length := rv.length
    have l2 : vs.length = nss.length := by rw [h3.length, List.length_map]
    -- each place
    have plc : ∀ (i : Nat) (v : V) (ns : List Int) (u : Value), vs[i]? = some v → nss[i]? = some ns → its[i]? = some u → At X.K F v (rowD ns) ∧ RelV v u ∧ SrtT.IsTI s.heap u ns := by
      intro i v ns u hv hns hu'
      obtain ⟨d, hd, hat⟩ := h3.getV hv
      rw [List.getElem?_map, hns] at hd
      cases hd
      obtain ⟨u2, h5, h6⟩ := rv.get hv
      rw [hu'] at h5
      cases h5
      exact ⟨hat, h6, row_ti I e hat h6⟩
    have all : ∀ u ∈ its, SrtT.IsTI s.heap u (SrtT.tiOf s.heap u) ∧ ∃ i : Nat, its[i]? = some u ∧ nss[i]? = some (SrtT.tiOf s.heap u) := by
      intro u hm
      obtain ⟨i, hi⟩ := List.mem_iff_getElem?.mp hm
      have hi' : i < its.length := (List.getElem?_eq_some_iff.mp hi).1
      obtain ⟨_, _, h⟩ := plc i _ _ u (List.getElem?_eq_getElem (by omega)) (List.getElem?_eq_getElem (by omega)) hi
      have e1 := h.of_tiOf
      rw [e1]
      exact ⟨h, i, hi, List.getElem?_eq_getElem (by omega)⟩
    refine SrtO.sorted_any (ltv := fun v u => HT.lexLt (SrtT.tiOf s.heap v) (SrtT.tiOf s.heap u)) (NtL.swo_lexL _) (.inl rfl) g1 g2 g3 (by rw [← l1]; exact hz) (fun hlen hp a hg hk => ?_) fun out g p' ep s1 s2 hp' kp hg => ?_
    · have hv' : ∀ v ∈ its, SrtT.IsTI hp v (SrtT.tiOf s.heap v) := fun v hm => (all v hm).1.keeps fun b o _ q => (hk b o q).2
      have hne : ∀ v ∈ its, v ≠ .ref a := fun v hm z => by
        obtain ⟨a', o', _, _, ev, ho', _⟩ := (all v hm).1
        rw [z] at ev
        injection ev with ev
        exact (hk _ _ ho').1 ev.symm
      rcases hn with hn | hn
      · refine SrtT.ti_sortable (s := { s with heap := hp }) (k := SrtT.tiOf s.heap) hlen (fun v hm => ⟨hv' v hm, ?_⟩) hne
        obtain ⟨_, i, _, hi⟩ := all v hm
        exact hn _ (List.mem_of_getElem? hi)
      · match its, hlen, hv', hne, all, plc with
        | v0 :: rest, _, hv', hne, all, plc =>
          refine SrtT.ti_sortable1 (s := { s with heap := hp }) (k := SrtT.tiOf s.heap) (by simp only [Around.in1_units]; omega) ?_ hv' hne
          match nss, hn with
          | n0 :: nr, hn =>
            have h0 : n0 = [] := by simpa using hn
            subst h0
            match vs, h2 with
            | w0 :: wr, _ => exact (plc 0 w0 [] v0 rfl rfl rfl).2.2.of_tiOf
            | [], _ => simp at l2
    · have m2 : (vs.zip (nss.zip its)).map (fun z => z.2.2) = its := by
        have : (fun z : V × List Int × Value => z.2.2) = Prod.snd ∘ Prod.snd := rfl
        rw [this, ← List.map_map, List.map_snd_zip (by rw [List.length_zip]; omega), List.map_snd_zip (by omega)]
      have m1 : (vs.zip (nss.zip its)).map (fun z => z.2.1) = nss := by
        have : (fun z : V × List Int × Value => z.2.1) = Prod.fst ∘ Prod.snd := rfl
        rw [this, ← List.map_map, List.map_snd_zip (by rw [List.length_zip]; omega), List.map_fst_zip (by omega)]
      obtain ⟨L, hL, eL⟩ := perm_lift (fun z : V × List Int × Value => z.2.2) s2.perm _ m2
      have each : ∀ z ∈ L, At X.K F z.1 (rowD z.2.1) ∧ RelV z.1 z.2.2 ∧ SrtT.tiOf s.heap z.2.2 = z.2.1 := by
        intro z hz'
        obtain ⟨j, hj⟩ := List.mem_iff_getElem?.mp (hL.mem_iff.mp hz')
        obtain ⟨q1, q2⟩ := List.getElem?_zip_eq_some.mp hj
        obtain ⟨q3, q4⟩ := List.getElem?_zip_eq_some.mp q2
        obtain ⟨a1, a2, a3⟩ := plc j _ _ _ q1 q3 q4
        exact ⟨a1, a2, a3.of_tiOf⟩
      have hnn : H p' = none := I.hok.gone hp'
      have hperm : (L.map fun z => z.2.1).Perm nss := by
        have := hL.map (fun z => z.2.1)
        rwa [m1] at this
      have hasc : AscR (L.map fun z => z.2.1) := by
        rw [← eL] at s1
        have s1 := List.pairwise_map.mp s1
        unfold AscR
        rw [List.pairwise_map]
        refine List.Pairwise.imp_of_mem (fun {x y} hx hy h => ?_) s1
        have h : HT.lexLt (SrtT.tiOf s.heap y.2.2) (SrtT.tiOf s.heap x.2.2) = false := h
        rw [(each x hx).2.2, (each y hy).2.2] at h
        exact h
      have es : L.map (fun z => z.2.1) = sortR nss := rows_unique (hperm.trans (sortR_perm nss).symm) hasc (sortR_sorted nss)
      have hvals : Vals (L.map fun z => z.1) out := by
        rw [← eL]
        exact vals_maps (fun z : V × List Int × Value => z.1) (fun z => z.2.2) L fun z hz' => (each z hz').2.1
      have hlen : (L.map fun z => z.1).length ≤ sizeLine := by
        rw [hvals.length, s2.perm.length_eq, ← l1]
        exact hz
      refine ⟨.ref p', upd H p' (.lst (L.map fun z => z.1)), I.laidN (t' := s.toks) kp hp' hnn ⟨hlen, out, ep, hvals, hg⟩, rfl, k _ _ hnn ?_⟩
      show AtAll X.K F _ ((sortR ((nss.map rowD).map unrow)).map rowD)
      rw [unrow_map, ← es, List.map_map]
      have : ∀ M : List (V × List Int × Value), (∀ z ∈ M, At X.K F z.1 (rowD z.2.1)) → AtAll X.K F (M.map fun z => z.1) (M.map (rowD ∘ fun z => z.2.1)) := by
        intro M
        induction M with
        | nil => intro _; exact .nil
        | cons z M ih => intro h; exact .cons (h z (.head _)) (ih fun y hy => h y (.tail _ hy))
      exact this L fun z hz' => (each z hz').1
end
section
variable {K : PySem.W.Frag} {s s1 : S} {te : TE} {nss : List (List Int)}
theorem ev_sortRL (h : Ev K te s (.list (nss.map rowD)) s1) (hn : (∀ ns ∈ nss, ns ≠ []) ∨ nss.head? = some []) : Ev K (tCB (rDl K sortOkT sortLT) (tCons te tNil)) s (.list ((sortR nss).map rowD)) s1 :=
  (ev_cl (ea_cons h ea_nil) ⟨nss, rfl, hn⟩).to (by show PyData.list ((sortR ((nss.map rowD).map unrow)).map rowD) = _; rw [unrow_map])
end
end DL

/-! comprehensions of two clauses -/
namespace DL
open PySem PySem.Spec PyProof.Rows L2
theorem wipe_sub {σ : L2.St} {vs vs1 : List Nat} (h : ∀ i ∈ vs1, i ∈ vs) : wipe (wipe σ vs1) vs = wipe σ vs := by
  apply List.ext_getElem?
  intro i
  rw [wipe_get, wipe_get, wipe_length, wipe_get]
  by_cases hi : i ∈ vs
  · simp [hi]
  · have : i ∉ vs1 := fun z => hi (h i z)
    simp [hi, this]
theorem S.wipe_sub {s : S} {vs vs1 : List Nat} (h : ∀ i ∈ vs1, i ∈ vs) : (s.wipe vs1).wipe vs = s.wipe vs := by
  have e : wipeL (wipeL s.s vs1) vs = wipeL s.s vs := by
    apply List.ext_getElem?
    intro i
    rw [wipeL_get, wipeL_get, wipeL_length, wipeL_get]
    by_cases hi : i ∈ vs
    · simp [hi]
    · have : i ∉ vs1 := fun z => hi (h i z)
      simp [hi, this]
  show S.mk (wipeL (wipeL s.s vs1) vs) s.g = S.mk (wipeL s.s vs) s.g
  rw [e]
theorem S.wipe_wipe {s : S} {vs : List Nat} : (s.wipe vs).wipe vs = s.wipe vs := S.wipe_sub fun _ h => h
/-- ours alone: p holds the list acc -/
def Held (p : Addr) (acc : List V) (H F : Hp) (fp : Fp) : Prop := H p = some (.lst acc) ∧ F p = none ∧ ∀ i, ¬ fp i p
theorem Held.step {p : Addr} {acc : List V} {Ha Fa Hb Fb : Hp} {fa fb : Fp} (h : Held p acc Ha Fa fa) (st : Step Ha Fa fa Hb Fb fb) : Held p acc Hb Fb fb := by
  obtain ⟨a1, a2, a3⟩ := h
  exact ⟨st.keep p _ a1 (by intro ps z; cases z) a3, st.new p a2 ⟨_, a1, by intro ps z; cases z⟩ a3, fun i hi => by
    rcases st.fpn i p hi with ⟨j, hj⟩ | h
    · exact a3 j hj
    · exact h ⟨_, a1, by intro ps z; cases z⟩⟩
/-- what one turn of the outer clause adds -/
def part2 (p : D → Bool) (es : D → List D) (p1 : D → D → Bool) (y : D → D → D) (d : D) : List D := if p d = true then ((es d).filter (p1 d)).map (y d) else []
section
variable {K : PySem.W.Frag} {s s1 : S} {te : TE} {tt tt1 : TT} {g g1 : TG} {wi wi1 : TI} {vs vs1 : List Nat} {σ : L2.St} {H F : Hp} {fp : Fp}
theorem lc2_gen {ds : List D} (p : D → Bool) (es : D → List D) (p1 : D → D → Bool) (y : D → D → D) (hv : ∀ i ∈ vs1, i ∈ vs) (hw : IterD K wi s ds s1) (hz : (ds.flatMap (part2 p es p1 y)).length ≤ sizeLine)
    (hs : ∀ d, d ∈ ds → ∃ s2, TgV K vs g (s1.wipe vs) d s2 ∧ SLe (s2.wipe vs) (s1.wipe vs) ∧ EvT K tt s2 (p d) s2 ∧ (p d = true → IterD K wi1 s2 (es d) s2 ∧
      ∀ e, e ∈ es d → ∃ s3, TgV K vs1 g1 (s2.wipe vs1) e s3 ∧ SLe (s3.wipe vs1) (s2.wipe vs1) ∧ EvT K tt1 s3 (p1 d e) s3 ∧ (p1 d e = true → Ev K te s3 (y d e) s3)))
    (e : EnvW K σ s H F fp) (Q : VK) (q : ∀ H1 F1 fp1 p' H' F' fp' acc, EnvW K σ s1 H1 F1 fp1 → Step H F fp H1 F1 fp1 → H1 p' = none → EnvW K (L2.wipe σ vs) (s1.wipe vs) H' F' fp' → Step H1 F1 fp1 H' F' fp' → H' p' = some (.lst acc) → AtAll K F' acc (ds.flatMap (part2 p es p1 y)) → F' p' = none → (∀ i, ¬ fp' i p') → Q (.ref p') H') :
    tLc2 wi g tt wi1 g1 tt1 te vs vs1 σ H Q :=
  hw σ H F fp e _ fun J H1 F1 fp1 e1 st1 hJ D0 hp => by
    have e0 : EnvW K (L2.wipe σ vs) (s1.wipe vs) (upd H1 D0 (.lst [])) F1 fp1 := ((e1.wipe vs).growH hp)
    have nfp : ∀ i, ¬ fp1 i D0 := fun i hi => (e1.th i D0 hi).ne hp rfl
    have tot : ∀ i, ((ds.take i).flatMap (part2 p es p1 y)).length ≤ (ds.flatMap (part2 p es p1 y)).length := fun i => by
      conv => rhs; rw [← List.take_append_drop i ds, List.flatMap_append, List.length_append]
      omega
    refine ⟨fun i k H' => k = ds.length - i ∧ i ≤ ds.length ∧ ∃ F' fp' acc, EnvW K (L2.wipe σ vs) (s1.wipe vs) H' F' fp' ∧ Step H1 F1 fp1 H' F' fp' ∧ Held D0 acc H' F' fp' ∧ AtAll K F' acc ((ds.take i).flatMap (part2 p es p1 y)), ⟨ds.length, rfl, Nat.zero_le _, F1, fp1, [], e0, Step.growH hp, ⟨upd_same, e1.ex.un hp, nfp⟩, .nil⟩, ?_⟩
    rintro i k H' ⟨rfl, hi, F', fp', acc, e', st', hh, ha⟩
    obtain ⟨hgo, hstop⟩ := hJ F' H' i st'.ex e'.ex
    by_cases hil : i < ds.length
    · obtain ⟨d, hd⟩ : ∃ d, ds[i]? = some d := ⟨ds[i], by simp [hil]⟩
      have tk : ds.take (i + 1) = ds.take i ++ [d] := by rw [List.take_add_one, hd]; rfl
      have tk2 : (ds.take (i + 1)).flatMap (part2 p es p1 y) = (ds.take i).flatMap (part2 p es p1 y) ++ part2 p es p1 y d := by rw [tk, List.flatMap_append]; simp
      obtain ⟨s2, hg, hle, ht, hin⟩ := hs d (List.mem_of_getElem? hd)
      obtain ⟨g1', g2⟩ := hgo d hd
      refine .inr ⟨g1', fun H3 => ∃ F3 fp3 acc, EnvW K (L2.wipe σ vs) (s1.wipe vs) H3 F3 fp3 ∧ Step H1 F1 fp1 H3 F3 fp3 ∧ Held D0 acc H3 F3 fp3 ∧ AtAll K F3 acc ((ds.take (i + 1)).flatMap (part2 p es p1 y)), fun H3 ⟨F3, fp3, acc, h1, h2, h3, h4⟩ => ⟨ds.length - (i + 1), by omega, rfl, by omega, F3, fp3, acc, h1, h2, h3, h4⟩, fun x H2 hyl => ?_⟩
      obtain ⟨F2, gr, ax⟩ := g2 x H2 hyl
      have e2 := e'.grow gr
      have st2 := st'.trans (e'.growS gr)
      have hh2 := hh.step (e'.growS gr)
      refine hg _ H2 F2 fp' x e2 ax _ fun σ4 fp4 e4 st4 w4 => ⟨w4.trans (wipe_wipe σ vs), ?_⟩
      have hh4 := hh2.step st4
      have w4' : L2.wipe σ4 vs = L2.wipe σ vs := w4.trans (wipe_wipe σ vs)
      refine ht σ4 H2 F2 fp4 e4 _ fun H5 F5 fp5 e5 st5 => ?_
      have hh5 := hh4.step st5
      have ha5 := ha.ex ((gr.f.trans st4.ex).trans st5.ex)
      cases hb : p d with
      | false =>
        show ∃ F3 fp3 acc, _
        refine ⟨F5, fp5, acc, ?_, (st2.trans st4).trans st5, hh5, ?_⟩
        · have z := (e5.wipe vs).le hle
          rw [w4'] at z
          exact z
        · rw [tk2]
          have : part2 p es p1 y d = [] := by unfold part2; rw [hb]; rfl
          rw [this, List.append_nil]
          exact ha5
      | true =>
        obtain ⟨hw1, hs1⟩ := hin hb
        have pd : part2 p es p1 y d = ((es d).filter (p1 d)).map (y d) := by unfold part2; rw [hb]; rfl
        show wi1 σ4 H5 _
        refine hw1 σ4 H5 F5 fp5 e5 _ fun J1 H6 F6 fp6 e6 st6 hJ1 => ?_
        have hh6 := hh5.step st6
        have stb := ((st2.trans st4).trans st5).trans st6
        refine ⟨fun j m Hc => m = (es d).length - j ∧ j ≤ (es d).length ∧ ∃ Fc fc acc, EnvW K (L2.wipe σ4 vs1) (s2.wipe vs1) Hc Fc fc ∧ Ex F6 Fc ∧ Step H1 F1 fp1 Hc Fc fc ∧ Held D0 acc Hc Fc fc ∧ AtAll K Fc acc ((ds.take i).flatMap (part2 p es p1 y) ++ (((es d).take j).filter (p1 d)).map (y d)),
          ⟨(es d).length, rfl, Nat.zero_le _, F6, fp6, acc, e6.wipe vs1, Ex.refl _, stb, hh6, ?_⟩, ?_⟩
        · simpa using ha5.ex st6.ex
        · rintro j m Hc ⟨rfl, hj, Fc, fc, acc2, ec, stc, stc1, hhc, hac⟩
          obtain ⟨jgo, jstop⟩ := hJ1 Fc Hc j stc ec.ex
          by_cases hjl : j < (es d).length
          · obtain ⟨c, hc⟩ : ∃ c, (es d)[j]? = some c := ⟨(es d)[j], by simp [hjl]⟩
            have tj : (es d).take (j + 1) = (es d).take j ++ [c] := by rw [List.take_add_one, hc]; rfl
            obtain ⟨s3, hg3, hle3, ht3, hy3⟩ := hs1 c (List.mem_of_getElem? hc)
            obtain ⟨j1, j2⟩ := jgo c hc
            refine .inr ⟨j1, fun H3 => ∃ F3 fp3 acc, EnvW K (L2.wipe σ4 vs1) (s2.wipe vs1) H3 F3 fp3 ∧ Ex F6 F3 ∧ Step H1 F1 fp1 H3 F3 fp3 ∧ Held D0 acc H3 F3 fp3 ∧ AtAll K F3 acc ((ds.take i).flatMap (part2 p es p1 y) ++ (((es d).take (j + 1)).filter (p1 d)).map (y d)),
              fun H3 ⟨F3, fp3, acc, h0, h1, h2, h3, h4⟩ => ⟨(es d).length - (j + 1), by omega, rfl, by omega, F3, fp3, acc, h0, h1, h2, h3, h4⟩, fun x7 H7 hyl7 => ?_⟩
            obtain ⟨F7, gr7, ax7⟩ := j2 x7 H7 hyl7
            have e7 := ec.grow gr7
            have hh7 := hhc.step (ec.growS gr7)
            refine hg3 _ H7 F7 fc x7 e7 ax7 _ fun σ8 fp8 e8 st8 w8 => ?_
            have w8' : L2.wipe σ8 vs1 = L2.wipe σ4 vs1 := w8.trans (wipe_wipe σ4 vs1)
            refine ⟨w8', ?_⟩
            have hh8 := hh7.step st8
            refine ht3 σ8 H7 F7 fp8 e8 _ fun H9 F9 fp9 e9 st9 => ?_
            have hh9 := hh8.step st9
            have ha9 := hac.ex ((gr7.f.trans st8.ex).trans st9.ex)
            have st79 := (((ec.growS gr7).trans st8).trans st9)
            cases hb1 : p1 d c with
            | false =>
              show ∃ F3 fp3 acc, _
              refine ⟨F9, fp9, acc2, ?_, stc.trans st79.ex, stc1.trans st79, hh9, ?_⟩
              · have z := (e9.wipe vs1).le hle3
                rw [w8'] at z
                exact z
              · rw [tj, List.filter_append]
                simp only [List.filter_cons, hb1]
                simpa using ha9
            | true =>
              show te σ8 H9 _
              refine hy3 hb1 σ8 H9 F9 fp9 e9 _ fun v Hd Fd fd ed std ad => ?_
              have hhd := hh9.step std
              have nw : (((es d).take (j + 1)).filter (p1 d)).map (y d) = (((es d).take j).filter (p1 d)).map (y d) ++ [y d c] := by rw [tj, List.filter_append]; simp [hb1]
              have lacc : acc2.length < sizeLine := by
                have l1 := hac.length
                have l2 := tot (i + 1)
                rw [tk2, List.length_append, pd] at l2
                have l3 : ((((es d).take (j + 1)).filter (p1 d)).map (y d)).length ≤ (((es d).filter (p1 d)).map (y d)).length := by
                  rw [List.length_map, List.length_map]
                  exact ((List.take_sublist _ _).filter _).length_le
                rw [nw, List.length_append] at l3
                rw [List.length_append] at l1
                have l4 : [y d c].length = 1 := rfl
                omega
              refine ⟨acc2, hhd.1, lacc, Fd, fd, acc2 ++ [v], ?_, stc.trans (st79.trans std).ex, (stc1.trans (st79.trans std)).mut hp, ⟨upd_same, hhd.2⟩, ?_⟩
              · have z := (ed.wipe vs1).le hle3
                rw [w8'] at z
                exact z.mut hhd.1 hhd.2.1 hhd.2.2
              · rw [nw, ← List.append_assoc]
                exact (ha9.ex std.ex).snoc ad
          · have hje : j = (es d).length := by omega
            subst hje
            refine .inl ⟨jstop rfl, ?_⟩
            show ∃ F3 fp3 acc, _
            refine ⟨Fc, fc, acc2, ?_, stc1, hhc, ?_⟩
            · have z := ec.wipe vs
              rw [wipe_sub hv, S.wipe_sub hv, w4'] at z
              exact z.le hle
            · rw [tk2, pd]
              rw [List.take_length] at hac
              exact hac
    · have hie : i = ds.length := by omega
      subst hie
      rw [List.take_length] at ha
      exact .inl ⟨hstop rfl, q H1 F1 fp1 D0 H' F' fp' acc e1 st1 hp e' st' hh.1 ha hh.2.1 hh.2.2⟩
theorem ev_lc2 {ds : List D} (p : D → Bool) (es : D → List D) (p1 : D → D → Bool) (y : D → D → D) (hv : ∀ i ∈ vs1, i ∈ vs) (hw : IterD K wi s ds s1) (hz : (ds.flatMap (part2 p es p1 y)).length ≤ sizeLine) (hr : NoRes s1 vs)
    (hs : ∀ d, d ∈ ds → ∃ s2, TgV K vs g (s1.wipe vs) d s2 ∧ SLe (s2.wipe vs) (s1.wipe vs) ∧ EvT K tt s2 (p d) s2 ∧ (p d = true → IterD K wi1 s2 (es d) s2 ∧
      ∀ e, e ∈ es d → ∃ s3, TgV K vs1 g1 (s2.wipe vs1) e s3 ∧ SLe (s3.wipe vs1) (s2.wipe vs1) ∧ EvT K tt1 s3 (p1 d e) s3 ∧ (p1 d e = true → Ev K te s3 (y d e) s3))) :
    Ev K (tLc2 wi g tt wi1 g1 tt1 te vs vs1) s (.list (ds.flatMap (part2 p es p1 y))) s1 := fun σ H F fp e Q q =>
  lc2_gen p es p1 y hv hw hz hs e Q fun H1 F1 fp1 p H' F' fp' acc e1 st1 hp e' st' hacc ha hF hfp => by
    have eF : Ex F' (upd F' p (.lst acc)) := Ex.new hF
    have e2 : EnvW K σ s1 H' F' fp' := e1.back st'.ex e' (back_same hr)
    refine q (.ref p) H' (upd F' p (.lst acc)) fp' ⟨fun a u z => ?_, e2.len, fun i x h => (e2.sl i x h).mono eF (fun _ _ => rfl) (fun _ _ h => h), e2.tb, e2.dj, fun i b h => ?_, e2.th, fun b o z => ?_⟩
      ⟨(st1.trans st').ex.trans eF, fun b h1 h2 h3 => ?_, (st1.trans st').keep, (st1.trans st').fpn, (st1.trans st').ext⟩ (.lst upd_same (ha.ex eF))
    · by_cases y : a = p
      · subst y; rw [upd_same] at z; cases z; exact hacc
      · rw [upd_ne y] at z; exact e2.ex a u z
    · rw [upd_ne (fun (z : b = p) => hfp i (z ▸ h))]; exact e2.nf i b h
    · by_cases y : b = p
      · subst y; rw [upd_same] at z; cases z; intro ps w; cases w
      · rw [upd_ne y] at z; exact e2.nt b o z
    · have : b ≠ p := fun z => by
        subst z
        exact (st1.live h2 h3).ne hp rfl
      rw [upd_ne this]
      exact (st1.trans st').new b h1 h2 h3
end
end DL

/-! reversed(list), min(.., default=None), sorted(set(ints)) -/
namespace DL
open PySem PySem.Spec PyProof.Rows L2
section
variable {K : PySem.W.Frag} {s s1 s2 : S} {te : TE}
theorem it_revA {ds : List D} (h : Ev K te s (.list ds) s1) : IterD K (RT.iRevA K te) s ds.reverse s1 := fun σ H F fp e R r =>
  h σ H F fp e _ fun v H1 F1 fp1 e1 st1 a1 => by
    cases a1 with
    | @lst a vs _ ha hv =>
      have hl := hv.length
      have hlst : ∀ {F' H'}, Ex F1 F' → Ex F' H' → H' a = some (.lst vs) := fun hF hH => hH _ _ (hF _ _ ha)
      refine ⟨a, vs, rfl, .inl ⟨.inl (.inl (e1.ex _ _ ha)), r _ H1 F1 fp1 e1 st1 fun F' H' i hF hH => ⟨fun d hd => ?_, fun hi => ?_⟩⟩⟩
      · have hi : i < ds.length := by
          have := (List.getElem?_eq_some_iff.mp hd).1
          simpa using this
        have hd' : ds[vs.length - 1 - i]? = some d := by
          rw [List.getElem?_reverse hi] at hd
          rw [hl]; exact hd
        obtain ⟨x, hx, hat⟩ := hv.get hd'
        refine ⟨⟨by omega, vs, x, .inl (.inl (hlst hF hH)), hx⟩, fun y H2 hy => ?_⟩
        obtain ⟨rfl, hy⟩ := hy
        have hy := hy vs (.inl (.inl (hlst hF hH)))
        rw [hx] at hy
        cases hy
        exact ⟨F', Grow.refl hH, hat.ex hF⟩
      · rw [List.length_reverse] at hi
        show vs.length ≤ i
        omega
/-! ### keywords of a built-in -/
def rDK (K : PySem.W.Frag) (ok : List D → List D → Prop) (f : List D → List D → D) : List V → List V → Hp → VK → Prop := fun xs zs H Q => ∃ F ds es, Ex F H ∧ AtCs K F H xs ds ∧ AtAll K F zs es ∧ ok ds es ∧ ∀ v H' F', Grow F H F' H' → At K F' v (f ds es) → Q v H'
theorem ev_ckw {ok : List D → List D → Prop} {f : List D → List D → D} {t tk : TA} {ds es : List D} (ha : EvA K t s ds s1) (hk : EvA K tk s1 es s2) (h : ok ds es) : Ev K (tCKw (rDK K ok f) t tk) s (f ds es) s2 := fun σ H F fp E Q q =>
  ha σ H F fp E _ fun vs H1 F1 fp1 E1 st1 a1 => hk σ H1 F1 fp1 E1 _ fun zs H2 F2 fp2 E2 st2 a2 => ⟨F2, ds, es, E2.ex, AtCs.of (a1.ex st2.ex), a2, h, fun v H' F' g a => q v H' F' fp2 (E2.grow g) ((st1.trans st2).trans (E2.growS g)) a⟩
def mdOk : List D → List D → Prop
  | [.list ds], [.none] => (intsOf ds).isSome = true
  | _, _ => False
/-- the least, None if there is none -/
def minN (ns : List Int) : D := if ns = [] then .none else .int (lmin ns)
def mdD : List D → List D → D
  | [.list ds], _ => minN ((intsOf ds).getD [])
  | _, _ => .none
end
theorem minOf_le : ∀ (xs : List Int) (x : Int), PySem.W.minOf x xs ≤ x ∧ (∀ y ∈ xs, PySem.W.minOf x xs ≤ y) ∧ (PySem.W.minOf x xs = x ∨ PySem.W.minOf x xs ∈ xs)
  | [], x => ⟨Int.le_refl _, fun y h => by simp at h, .inl rfl⟩
  | y :: ys, x => by
    have e : PySem.W.minOf x (y :: ys) = PySem.W.minOf (if y < x then y else x) ys := by
      show List.foldl _ _ ys = List.foldl _ _ ys
      congr 1
      show (if decide (y < x) = true then y else x) = _
      simp
    obtain ⟨h1, h2, h3⟩ := minOf_le ys (if y < x then y else x)
    rw [e]
    by_cases c : y < x
    · rw [if_pos c] at h1 h2 h3 ⊢
      refine ⟨by omega, fun z hz => ?_, ?_⟩
      · rcases List.mem_cons.mp hz with rfl | hz
        · exact h1
        · exact h2 z hz
      · rcases h3 with h | h
        · exact .inr (by rw [h]; exact List.mem_cons_self)
        · exact .inr (List.mem_cons_of_mem _ h)
    · rw [if_neg c] at h1 h2 h3 ⊢
      refine ⟨h1, fun z hz => ?_, ?_⟩
      · rcases List.mem_cons.mp hz with rfl | hz
        · omega
        · exact h2 z hz
      · rcases h3 with h | h
        · exact .inl h
        · exact .inr (List.mem_cons_of_mem _ h)
theorem minOf_lmin {x : Int} {xs : List Int} : PySem.W.minOf x xs = lmin (x :: xs) := by
  obtain ⟨h1, h2, h3⟩ := minOf_le xs x
  refine (lmin_spec _ _ ?_ fun y hy => ?_).symm
  · rcases h3 with h | h
    · rw [h]; exact List.mem_cons_self
    · exact List.mem_cons_of_mem _ h
  · rcases List.mem_cons.mp hy with rfl | hy
    · exact h1
    · exact h2 y hy
section
variable {X : Cx}
theorem call_minK (hc : X.calm = true) (hu : X.A.units + 65 < cLine) : CallRK X (.builtin "min") [Str.ofString "default"] (rDK X.K mdOk mdD) := by
  intro pins s σ H xs zs us ws Q I r rz ⟨F, ds, es, e, ha, hz, ok, k⟩
  match ds, es, ok, ha, hz with
  | [.list ds], [.none], o2, .cons h1 .nil, .cons hn .nil =>
    cases hn
    obtain ⟨p, vs, rfl, h2, h3⟩ := h1.lst e
    obtain ⟨ns, hns⟩ := Option.isSome_iff_exists.mp o2
    have ee := intsOf_eq hns
    subst ee
    rw [h3.ints] at h2
    obtain ⟨its, rv, hl, _⟩ := I.list (show SqL X.K H p _ from .inl (.inl h2))
    have hi := rv.ints
    rw [Vals.ref1 r]
    have hw : ws = [Value.none] := by
      cases rz with
      | cons a t => cases t; cases a; rfl
    rw [hw]
    have H2 : PySem.W.HoldAll s.heap its ns := PySem.W.HoldAll.of_ints hi
    have ke : mdD [.list (ns.map PyData.int)] [.none] = minN ns := by simp only [mdD, hns, Option.getD_some]
    rw [ke] at k
    show wpAny (model X.prog X.w) X.A (call (.builtin "min") [.ref p] [(Str.ofString "default", .none)]) _ _ _
    refine PySem.W.min_list_datum_default (xs := ns) (I.ok.hd hc) hl.isList (by simpa using H2) (by show X.A.units + 1 + 0 < cLine; omega) (fun hz h' tk hk => ?_) fun x xs i v h' tk hx hv hol hk => ?_
    · subst hz
      exact ⟨.non, H, I.kept hk, rfl, k _ H F (Grow.refl e) .non⟩
    · subst hx
      rw [minOf_lmin] at hol
      obtain ⟨t, rfl⟩ := PySem.W.int_of_holds hol
      have : minN (x :: xs) = .int (lmin (x :: xs)) := if_neg (by simp)
      rw [this] at k
      exact ⟨.int _, H, I.kept hk, ⟨_, rfl⟩, k _ H F (Grow.refl e) (.int _)⟩
end
section
variable {K : PySem.W.Frag} {s s1 s2 : S} {te tk : TE}
theorem ev_minD {ns : List Int} (h : Ev K te s (.list (ns.map PyData.int)) s1) (hk : Ev K tk s1 .none s2) : Ev K (tCKw (rDK K mdOk mdD) (tCons te tNil) (tCons tk tNil)) s (minN ns) s2 := by
  refine (ev_ckw (ea_cons h ea_nil) (ea_cons hk ea_nil) (by show (intsOf (ns.map PyData.int)).isSome = true; rw [intsOf_map]; rfl)).to ?_
  show minN ((intsOf (ns.map PyData.int)).getD []) = _
  rw [intsOf_map]; rfl
end
end DL

/-! sorted(set(xs)), xs a list or a tuple of ints -/
namespace L2
open PySem PySem.Spec PyProof.Rows
section
variable {P : Program} {w : World} {A : Around} {E : Value → Shared → Prop} {s : Shared}
set_option maxHeartbeats 6400000 in
/-- set(l) of a list of ints, told as SetR -/
theorem set_listR {l : Addr} {items : Array Value} (ns : List Int) {Q : Value → Shared → Prop} (hh : A.handled = none) (hl : s.heap.IsList l items) (hit : IntsAre items.toList ns) (hb : ns.length + 1 < scanBound)
    (h : ∀ (h' : Heap) (tk c : Nat), SetR w h' s.heap.objs.size (fun j => decide (j ∈ ns)) c → c ≤ ns.length → (∀ b o, s.heap.get? b = some o → h'.get? b = some o) → Q (.ref s.heap.objs.size) { s with heap := h', toks := tk }) :
    wpAny (model P w) A (call (.type "set") [.ref l]) Q E s := by
  have hisz : items.size = ns.length := by
    have q := IntsAre.length hit
    rw [Array.length_toList] at q
    exact q
  obtain ⟨c, tl, hmro⟩ := F.called_set.mro
  have hmade := F.called_set.made
  have hsub := F.called_set.sub
  refine wpAny_call (codeAny_of_tree ?_)
  show wpAny _ _ (callAny (.type "set") _) _ _ _
  refine wpAny_pure ⟨Code.quiet_builtin _ (by decide +kernel), codeAny_builtin F.entry_type_call ?_⟩
  rw [Around.under_plain (weight_type_call_type "set" [.ref l] []) rfl]
  have h1 := F.called_set.notType
  have h2 := F.called_set.canCreate
  have hct := F.typeCall_set_1 (.ref l)
  repeat (any_goals (first | assumption | wp_step))
  let O : Obj := { cls := .type "set", dict := none, data := .set #[] 0 (.fresh 0 0 (!w.params.followText "set-order")) }
  refine codeAny_mono (code_set_led1 (.ref l) (E := E) (Q₁ := fun obj s₁ => obj = .ref s.heap.objs.size ∧ s₁ = { s with heap := s.heap.push O }) ⟨rfl, rfl⟩) fun r s₁ hr => ?_
  cases r with
  | error e => exact hr
  | ok fl =>
    cases fl with
    | ret obj =>
      obtain ⟨rfl, rfl⟩ := hr
      have hS : (s.heap.push O).get? s.heap.objs.size = some O := Heap.get?_push_size _ rfl
      have hT : Shared.TypeIs { s with heap := s.heap.push O } (.ref s.heap.objs.size) "set" := ⟨_, hS, rfl⟩
      have hli := F.called_set.init.lookup
      have hbi := F.called_set.init.bind (.ref s.heap.objs.size)
      repeat (any_goals (first | assumption | wp_step))
      refine codeAny_mono (codeAny_call_builtin (R := wants (fun r s₂ => r = .none ∧ ∃ h' tk c, s₂ = { s with heap := h', toks := tk } ∧ SetR w h' s.heap.objs.size (fun j => decide (j ∈ ns)) c ∧ c ≤ ns.length ∧
          (∀ b o, s.heap.get? b = some o → h'.get? b = some o)) E) F.called_set.init.plain F.entry_set_init (check_set_init_1 hT ?_)) fun r₂ s₂ hr₂ => ?_
      · obtain ⟨⟨ocls, odict, odata, oslots⟩, hol, hcl, nl, hdl⟩ := hl
        simp only at hcl hdl
        subst hcl; subst hdl
        have hol' : (s.heap.push O).get? l = some { cls := .type "list", dict := odict, data := .seq items nl, slots := oslots } := Heap.get?_push_of_some _ hol
        have hsls := F.sub_list_set
        have hslf := F.sub_list_frozenset
        have hne : (Value.type "list" == Value.type "dict") = false := by decide
        have hl1 : (s.heap.push O).IsList l items := ⟨_, hol', rfl, nl, rfl⟩
        unfold Builtin.«set.__init__» noKeywords Builtin.Frozenset.updateFrom
        generalize hPI : pyIter = PI
        wp_walk
        subst hPI
        refine wpAny_pyIter_list hl1 ?_
        refine wpAny_bind (wpAny_runValue ?_)
        have hlS : l < s.heap.objs.size := Heap.lt_size hol
        have hh3 : A.in1.in1.in1.handled = none := by simp [hh]
        have hneI : l ≠ (s.heap.push O).objs.size := by
          rw [Heap.size_push]; exact Nat.ne_of_lt (Nat.lt_succ_of_lt hlS)
        have hSf : s.heap.objs.size ∉ [(s.heap.push O).objs.size, l] := by
          rw [Heap.size_push]; simp only [List.mem_cons, List.mem_singleton, List.not_mem_nil, or_false, not_or]
          exact ⟨Nat.ne_of_lt (Nat.lt_succ_self _), Nat.ne_of_gt hlS⟩
        have hval : ∀ (i : Nat) (v : Value), items[i]? = some v → ∃ k t, ns[i]? = some k ∧ v = .int k t := fun i v hv => by
          have hi : i < ns.length := by rw [← hisz]; exact (Array.getElem?_eq_some_iff.mp hv).1
          obtain ⟨t, e⟩ := PyProof.Rows.IntsAre.int_at hit i v (by rw [Array.getElem?_toList]; exact hv)
          refine ⟨ns[i], t, List.getElem?_eq_getElem hi, ?_⟩
          rw [e, List.getD_eq_getElem?_getD, List.getElem?_eq_getElem hi] <;> rfl
        refine set_update_ints ((Walks.list hh3 _ l hneI items).toS) s.heap.objs.size
          hSf ns hisz hb hval (items.size - 0) 0 _ (by omega) (Nat.zero_le _)
          ⟨⟨_, Heap.get?_push_size _ rfl, rfl, rfl⟩, (hl1.push _)⟩ ?hS0 ?hR
        case hS0 =>
          have hget : ((s.heap.push O).push { cls := .type "list_iterator", data := .fields #[.ref l, .int 0 0] }).get? s.heap.objs.size = some O := Heap.get?_push_of_some _ hS
          exact ⟨0, Nat.le_refl 0, setR_new_at hget⟩
        case hR =>
          intro s' c' hm hc' hS'
          obtain ⟨h', g2, d', tk', os'⟩ := s'
          have eg : g2 = s.gens := hm.gens
          have ed : d' = s.drawn := hm.drawn
          have eo : os' = s.os := hm.os
          subst eg; subst ed; subst eo
          show wpAny _ _ _ _ _ _
          refine wpAny_pure ?_
          show wpAny _ _ (ret Value.none) _ _ _
          rw [hisz] at hc'
          refine wpAny_pure ⟨rfl, h', tk', c', rfl, hS', hc', fun b o e => ?_⟩
          have hb0 : b < s.heap.objs.size := Heap.lt_size e
          have hb1 : b ≠ s.heap.objs.size := Nat.ne_of_lt hb0
          have hb2 : b ≠ (s.heap.push O).objs.size := by
            rw [Heap.size_push]; exact Nat.ne_of_lt (Nat.lt_succ_of_lt hb0)
          exact hm.heap b o (by simp only [List.mem_cons, List.mem_singleton, List.not_mem_nil, or_false, not_or]; exact ⟨hb1, hb2⟩) (Heap.get?_push_of_some _ (Heap.get?_push_of_some _ e))
      · cases r₂ with
        | error e => exact hr₂
        | ok fl₂ =>
          cases fl₂ with
          | ret r =>
            obtain ⟨rfl, h', tk, c', rfl, hS', hc', hk'⟩ := hr₂
            repeat (any_goals (first | assumption | wp_step))
            exact h _ _ _ hS' hc' hk'
          | _ => exact hr₂.elim
    | _ => exact hr.elim
end
/-- sorted(set(x)) -/
def tSS (K : PySem.W.Frag) (te : TE) : TE := fun σ H Q => te σ H fun x H1 => ∃ (l : Addr) (ns : List Int), x = .ref l ∧ (SqL K H1 l (ns.map V.int) ∨ SqT K H1 l (ns.map V.int)) ∧ ns.length < 64 ∧
  ∀ (ms : List Int) (p : Addr), ms.Pairwise (· < ·) → (∀ k : Int, k ∈ ms ↔ k ∈ ns) → H1 p = none → Q (.ref p) (upd H1 p (.lst (ms.map V.int)))
section
variable {X : Cx} {p p2 pos pos2 : Pos} {e : Expr} {te : TE}
theorem pe_ss (hc : X.calm = true) (hg : Gl X "sorted") (hm : X.mg "sorted" = none) (hg2 : Gl X "set") (hm2 : X.mg "set" = none) (he : PE X e te) (na : starEach [e] X.env = (false, eval e X.env) :: starEach [] X.env := by rfl) :
    PE X (.Call (.Name "sorted" p) [.Call (.Name "set" p2) [e] [] pos2] [] pos) (tSS X.K te) := by
  refine ⟨fun pins s σ H Q I h => ?_⟩
  refine Call_ (ld_blt I hg hm PyProof.Rows.boot_sorted ?_)
  refine PyProof.Rows.callWith_builtin1 (PyProof.Rows.args_cons ?_ rfl) rfl rfl
  refine Call_ (ld_blt I hg2 hm2 PyProof.Rows.boot_set ?_)
  refine PyProof.Rows.callWith_type1 (PyProof.Rows.args_cons (thn (he.run pins s σ H _ I h) fun v s1 ⟨x, H1, I1, r1, q1⟩ => PyProof.Rows.args_nil ?_) na) na rfl
  obtain ⟨l, ns, rfl, hq, h64, q⟩ := q1
  cases r1
  have fin : ∀ (h' : Heap) (tk c : Nat), SetR X.w h' s1.heap.objs.size (fun j => decide (j ∈ ns)) c → c ≤ ns.length → (∀ b o, s1.heap.get? b = some o → h'.get? b = some o) →
      wpAny (model X.prog X.w) X.A (call (.builtin "sorted") [.ref s1.heap.objs.size]) (EP X pins σ Q) X.xe { s1 with heap := h', toks := tk } := by
    intro h' tk c R hcl hk
    have I2 : Inv X pins σ H1 { s1 with heap := h', toks := tk } := I1.kept hk
    refine sorted_set (s := { s1 with heap := h', toks := tk }) R (I2.ok.hd hc) (by omega) fun s' p out cc ms k g o hp hgt hi hs hmem hlm => ?_
    have hlen : (ms.map V.int).length ≤ sizeLine := by rw [List.length_map, hlm, sizeLine_eq]; omega
    have hn : H1 p = none := I2.hok.fresh hp
    have J : Inv X pins σ (upd H1 p (.lst (ms.map V.int))) { ({ s1 with heap := h', toks := tk } : Shared) with heap := s'.heap, gens := s'.gens, drawn := s'.drawn, toks := s'.toks } :=
      I2.call (s := { s1 with heap := h', toks := tk }) (ch := []) (Un.laid (h := h') k hp hn) (I2.hok.laid k hp ⟨hlen, out.toList, cc, vals_of_ints hi, hgt⟩) (by rw [g]; exact I2.bare) (fun _ z => nomatch z)
    have e : s' = { s1 with heap := s'.heap, gens := s'.gens, drawn := s'.drawn, toks := s'.toks } := by
      cases s'
      cases s1
      cases o
      rfl
    rw [e]
    exact ⟨.ref p, _, J, rfl, q ms p hs (fun k => by rw [hmem k]; simp) hn⟩
  have sb : ns.length + 1 < scanBound := by unfold scanBound; omega
  rcases hq with hq | hq
  · obtain ⟨its, r, pl, hz⟩ := I1.list hq
    exact set_listR ns (I1.ok.hd hc) pl.isList (by simpa using r.ints) sb fun h' tk c R hcl hk => PyProof.Rows.args_nil (fin h' tk c R hcl hk)
  · obtain ⟨its, r, pl, hz⟩ := I1.tuple hq
    exact call_set_tupI ns (I1.ok.hd hc) pl (by simpa using r.ints) sb fun h' tk c R hcl hk => PyProof.Rows.args_nil (fin h' tk c R hcl hk)
end
end L2
namespace DL
open PySem PySem.Spec PyProof.Rows L2
def insU (x : Int) : List Int → List Int
  | [] => [x]
  | y :: l => if x < y then x :: y :: l else if x = y then y :: l else y :: insU x l
/-- the ints, each once, ascending -/
def usort : List Int → List Int
  | [] => []
  | x :: l => insU x (usort l)
theorem mem_insU {x k : Int} : ∀ {l : List Int}, k ∈ insU x l ↔ k = x ∨ k ∈ l
  | [] => by simp [insU]
  | y :: l => by
    unfold insU
    by_cases h1 : x < y
    · rw [if_pos h1]; simp
    · rw [if_neg h1]
      by_cases h2 : x = y
      · rw [if_pos h2]; subst h2; simp
      · rw [if_neg h2, List.mem_cons, mem_insU, List.mem_cons]
        constructor
        · rintro (h | h | h)
          · exact .inr (.inl h)
          · exact .inl h
          · exact .inr (.inr h)
        · rintro (h | h | h)
          · exact .inr (.inl h)
          · exact .inl h
          · exact .inr (.inr h)
theorem insU_asc {x : Int} : ∀ {l : List Int}, l.Pairwise (· < ·) → (insU x l).Pairwise (· < ·)
  | [], _ => List.pairwise_singleton _ _
  | y :: l, h => by
    have h' := List.pairwise_cons.mp h
    unfold insU
    by_cases h1 : x < y
    · rw [if_pos h1]
      refine List.pairwise_cons.mpr ⟨fun z hz => ?_, h⟩
      rcases List.mem_cons.mp hz with rfl | hz
      · exact h1
      · exact Int.lt_trans h1 (h'.1 z hz)
    · rw [if_neg h1]
      by_cases h2 : x = y
      · rw [if_pos h2]; exact h
      · rw [if_neg h2]
        refine List.pairwise_cons.mpr ⟨fun z hz => ?_, insU_asc h'.2⟩
        rcases mem_insU.mp hz with rfl | hz
        · omega
        · exact h'.1 z hz
theorem mem_usort {k : Int} : ∀ {l : List Int}, k ∈ usort l ↔ k ∈ l
  | [] => Iff.rfl
  | x :: l => by rw [usort, mem_insU, mem_usort, List.mem_cons]
theorem usort_asc : ∀ l : List Int, (usort l).Pairwise (· < ·)
  | [] => .nil
  | x :: l => insU_asc (usort_asc l)
theorem asc_unique : ∀ {l m : List Int}, l.Pairwise (· < ·) → m.Pairwise (· < ·) → (∀ k, k ∈ l ↔ k ∈ m) → l = m
  | [], [], _, _, _ => rfl
  | [], y :: m, _, _, h => absurd ((h y).mpr (.head _)) (by simp)
  | x :: l, [], _, _, h => absurd ((h x).mp (.head _)) (by simp)
  | x :: l, y :: m, h1, h2, h => by
    have h1' := List.pairwise_cons.mp h1
    have h2' := List.pairwise_cons.mp h2
    have e : x = y := by
      rcases List.mem_cons.mp ((h x).mp (.head _)) with e | hx
      · exact e
      · rcases List.mem_cons.mp ((h y).mpr (.head _)) with e | hy
        · exact e.symm
        · have := h1'.1 y hy; have := h2'.1 x hx; omega
    subst e
    rw [asc_unique h1'.2 h2'.2 fun k => ?_]
    constructor
    · intro hk
      rcases List.mem_cons.mp ((h k).mp (.tail _ hk)) with e | hk'
      · subst e; exact absurd (h1'.1 k hk) (by omega)
      · exact hk'
    · intro hk
      rcases List.mem_cons.mp ((h k).mpr (.tail _ hk)) with e | hk'
      · subst e; exact absurd (h2'.1 k hk) (by omega)
      · exact hk'
section
variable {K : PySem.W.Frag} {s s1 : S} {te : TE} {ns : List Int}
theorem ev_ssL (h : Ev K te s (.list (ns.map PyData.int)) s1) (hn : ns.length < 64) : Ev K (tSS K te) s (.list ((usort ns).map PyData.int)) s1 := fun σ H F fp E Q q =>
  h σ H F fp E _ fun v H1 F1 fp1 E1 st1 a1 => by
    cases a1 with
    | @lst a vs _ ha hv =>
      have ev := hv.ints
      subst ev
      refine ⟨a, ns, rfl, .inl (.inl (.inl (E1.ex _ _ ha))), hn, fun ms p hs hm hp => ?_⟩
      have e : ms = usort ns := asc_unique hs (usort_asc ns) fun k => (hm k).trans mem_usort.symm
      subst e
      have g : Grow F1 H1 (upd F1 p (.lst ((usort ns).map V.int))) (upd H1 p (.lst ((usort ns).map V.int))) := Grow.laid E1.ex hp
      exact q _ _ _ fp1 (E1.grow g) (st1.trans (E1.growS g)) (.lst upd_same AtAll.of_ints)
theorem ev_ssT (h : Ev K te s (.tuple (ns.map PyData.int)) s1) (hn : ns.length < 64) : Ev K (tSS K te) s (.list ((usort ns).map PyData.int)) s1 := fun σ H F fp E Q q =>
  h σ H F fp E _ fun v H1 F1 fp1 E1 st1 a1 => by
    cases a1 with
    | @tup a vs _ ha hv =>
      have ev := hv.ints
      subst ev
      refine ⟨a, ns, rfl, .inr (E1.ex.sqT ha), hn, fun ms p hs hm hp => ?_⟩
      have e : ms = usort ns := asc_unique hs (usort_asc ns) fun k => (hm k).trans mem_usort.symm
      subst e
      have g : Grow F1 H1 (upd F1 p (.lst ((usort ns).map V.int))) (upd H1 p (.lst ((usort ns).map V.int))) := Grow.laid E1.ex hp
      exact q _ _ _ fp1 (E1.grow g) (st1.trans (E1.growS g)) (.lst upd_same AtAll.of_ints)
end
end DL

/-! comprehensions over things of a Lean type -/
namespace DL
open PySem PySem.Spec PyProof.Rows L2
def unI : D → Int
  | .int n => n
  | _ => 0
theorem unI_int (n : Int) : unI (.int n) = n := rfl
section
variable {K : PySem.W.Frag} {s s1 : S} {te : TE} {tt : TT} {g : TG} {wi : TI} {vs : List Nat} {α : Type}
theorem filter_map_emb {as : List α} {m : α → D} {u : D → α} (hu : ∀ a, u (m a) = a) (q : α → Bool) (y : α → D) : ((as.map m).filter fun d => q (u d)).map (fun d => y (u d)) = (as.filter q).map y := by
  rw [List.filter_map, List.map_map]
  have e1 : ((fun d => q (u d)) ∘ m) = q := by funext a; show q (u (m a)) = q a; rw [hu]
  have e2 : ((fun d => y (u d)) ∘ m) = y := by funext a; show y (u (m a)) = y a; rw [hu]
  rw [e1, e2]
theorem ev_lcE {as : List α} (m : α → D) (u : D → α) (hu : ∀ a, u (m a) = a) (q : α → Bool) (y : α → D) (hw : IterD K wi s (as.map m) s1) (hz : as.length ≤ sizeLine) (hr : NoRes s1 vs)
    (hs : ∀ a, a ∈ as → ∃ s2, TgV K vs g (s1.wipe vs) (m a) s2 ∧ SLe (s2.wipe vs) (s1.wipe vs) ∧ EvT K tt s2 (q a) s2 ∧ (q a = true → Ev K te s2 (y a) s2)) : Ev K (tLc wi g tt te vs) s (.list ((as.filter q).map y)) s1 := by
  refine (ev_lc (fun d => q (u d)) (fun d => y (u d)) hw (by rw [List.length_map]; exact hz) hr fun d hd => ?_).to (by rw [filter_map_emb hu])
  obtain ⟨a, ha, rfl⟩ := List.mem_map.mp hd
  simp only [hu]
  exact hs a ha
theorem ev_lcMap {as : List α} (m : α → D) (u : D → α) (hu : ∀ a, u (m a) = a) (y : α → D) (hw : IterD K wi s (as.map m) s1) (hz : as.length ≤ sizeLine) (hr : NoRes s1 vs)
    (hs : ∀ a, a ∈ as → ∃ s2, TgV K vs g (s1.wipe vs) (m a) s2 ∧ SLe (s2.wipe vs) (s1.wipe vs) ∧ Ev K te s2 (y a) s2) : Ev K (tLc wi g tYes te vs) s (.list (as.map y)) s1 := by
  refine (ev_lcE m u hu (fun _ => true) y hw hz hr fun a ha => ?_).to (by rw [List.filter_eq_self.mpr fun _ _ => rfl])
  obtain ⟨s2, h1, h2, h3⟩ := hs a ha
  exact ⟨s2, h1, h2, et_yes, fun _ => h3⟩
theorem ev_allE {as : List α} (m : α → D) (u : D → α) (hu : ∀ a, u (m a) = a) (f : α → Bool) (hw : IterD K wi s (as.map m) s1) (hz : as.length ≤ sizeLine) (hr : NoRes s1 vs)
    (hs : ∀ a, a ∈ as → ∃ s2, TgV K vs g (s1.wipe vs) (m a) s2 ∧ SLe (s2.wipe vs) (s1.wipe vs) ∧ Ev K te s2 (.bool (f a)) s2) : Ev K (tCB (rDn K allOk allD) (tCons (tLc wi g tYes te vs) tNil)) s (.bool (as.all f)) s1 := by
  refine (ev_allL (bs := as.map f) ((ev_lcMap m u hu (fun a => .bool (f a)) hw hz hr hs).to ?_)).to ?_
  · rw [List.map_map]; rfl
  · rw [List.all_map]; rfl
theorem ev_anyE {as : List α} (m : α → D) (u : D → α) (hu : ∀ a, u (m a) = a) (f : α → Bool) (hw : IterD K wi s (as.map m) s1) (hz : as.length ≤ sizeLine) (hr : NoRes s1 vs)
    (hs : ∀ a, a ∈ as → ∃ s2, TgV K vs g (s1.wipe vs) (m a) s2 ∧ SLe (s2.wipe vs) (s1.wipe vs) ∧ Ev K te s2 (.bool (f a)) s2) : Ev K (tCB (rDn K allOk anyD) (tCons (tLc wi g tYes te vs) tNil)) s (.bool (as.any f)) s1 := by
  refine (ev_anyL (bs := as.map f) ((ev_lcMap m u hu (fun a => .bool (f a)) hw hz hr hs).to ?_)).to ?_
  · rw [List.map_map]; rfl
  · rw [List.any_map]; rfl
end
end DL

/-! rows (lists and tuples of tuples of ints): ==, in -/
namespace DL
open PySem PySem.Spec PyProof.Rows L2
theorem rows_shs (nss : List (List Int)) : Shs 1 (nss.map rowD) := shs_of fun d h => by
  obtain ⟨r, _, rfl⟩ := List.mem_map.mp h
  exact sh_tup (ints_shs r)
theorem okRows (nss : List (List Int)) : SeqAt.shaped (.list (nss.map rowD)) = true := (sh_lst (n := 1) (rows_shs nss)).ok (by decide)
theorem okRowsT (nss : List (List Int)) : SeqAt.shaped (.tuple (nss.map rowD)) = true := (sh_tup (n := 1) (rows_shs nss)).ok (by decide)
theorem okRow (r : List Int) : SeqAt.shaped (rowD r) = true := okT r
theorem okInt (n : Int) : SeqAt.shaped (.int n) = true := (sh_int (n := 0)).ok (by decide)
theorem eqv_row {a b : List Int} : PyData.eqv (rowD a) (rowD b) = decide (a = b) := eqv_intT
theorem eqv_rows : ∀ {xs ys : List (List Int)}, PyData.eqvAll (xs.map rowD) (ys.map rowD) = decide (xs = ys)
  | [], [] => by simp [PyData.eqvAll]
  | [], y :: ys => by simp [PyData.eqvAll]
  | x :: xs, [] => by simp [PyData.eqvAll]
  | x :: xs, y :: ys => by
    rw [List.map_cons, List.map_cons]
    unfold PyData.eqvAll
    rw [eqv_rows (xs := xs) (ys := ys), eqv_row]
    by_cases h : x = y <;> by_cases h2 : xs = ys <;> simp [h, h2]
theorem eqv_rowsL {xs ys : List (List Int)} : PyData.eqv (.list (xs.map rowD)) (.list (ys.map rowD)) = decide (xs = ys) := by
  unfold PyData.eqv
  exact eqv_rows
theorem eqv_rowsT {xs ys : List (List Int)} : PyData.eqv (.tuple (xs.map rowD)) (.tuple (ys.map rowD)) = decide (xs = ys) := by
  unfold PyData.eqv
  exact eqv_rows
theorem any_emb {α : Type} [DecidableEq α] {m : α → D} (hm : ∀ a b, PyData.eqv (m a) (m b) = decide (a = b)) (as : List α) (x : α) : ((as.map m).any fun z => PyData.eqv z (m x)) = decide (x ∈ as) := by
  rw [List.any_map]
  induction as with
  | nil => simp
  | cons a as ih =>
    rw [List.any_cons, ih]
    show (PyData.eqv (m a) (m x) || _) = _
    rw [hm]
    by_cases h : a = x
    · subst h; simp
    · have h2 : ¬ x = a := fun e => h e.symm
      simp [h, h2]
theorem eqv_int {a b : Int} : PyData.eqv (.int a) (.int b) = decide (a = b) := by
  unfold PyData.eqv
  by_cases h : a = b <;> simp [h]
theorem inB_intT (ns : List Int) (x : Int) : inB (.int x) (.tuple (ns.map PyData.int)) = decide (x ∈ ns) := any_emb (m := PyData.int) (fun _ _ => eqv_int) ns x
theorem inB_intL (ns : List Int) (x : Int) : inB (.int x) (.list (ns.map PyData.int)) = decide (x ∈ ns) := any_emb (m := PyData.int) (fun _ _ => eqv_int) ns x
theorem inB_rowL (nss : List (List Int)) (x : List Int) : inB (rowD x) (.list (nss.map rowD)) = decide (x ∈ nss) := (any_emb (m := rowD) (fun _ _ => eqv_row) nss x).trans (decide_eq_decide.mpr Iff.rfl)
theorem inB_rowT (nss : List (List Int)) (x : List Int) : inB (rowD x) (.tuple (nss.map rowD)) = decide (x ∈ nss) := (any_emb (m := rowD) (fun _ _ => eqv_row) nss x).trans (decide_eq_decide.mpr Iff.rfl)
section
variable {K : PySem.W.Frag} {s s1 s2 : S} {ta tb : TE} {ns ms : List Int} {xs ys : List (List Int)} {x : Int}
theorem ev_inIT (ha : Ev K ta s (.int x) s1) (hb : Ev K tb s1 (.tuple (ns.map PyData.int)) s2) : Ev K (tOp (rD2 K inOk inD) ta tb) s (.bool (decide (x ∈ ns))) s2 := (ev_inT ha hb ⟨okInt x, okT ns⟩).to (by rw [inB_intT])
theorem ev_inIL (ha : Ev K ta s (.int x) s1) (hb : Ev K tb s1 (.list (ns.map PyData.int)) s2) : Ev K (tOp (rD2 K inOk inD) ta tb) s (.bool (decide (x ∈ ns))) s2 := (ev_inT ha hb ⟨okInt x, okL ns⟩).to (by rw [inB_intL])
theorem ev_ninIT (ha : Ev K ta s (.int x) s1) (hb : Ev K tb s1 (.tuple (ns.map PyData.int)) s2) : Ev K (tOp (rD2 K inOk ninD) ta tb) s (.bool (!decide (x ∈ ns))) s2 := (ev_ninT ha hb ⟨okInt x, okT ns⟩).to (by rw [inB_intT])
theorem ev_ninIL (ha : Ev K ta s (.int x) s1) (hb : Ev K tb s1 (.list (ns.map PyData.int)) s2) : Ev K (tOp (rD2 K inOk ninD) ta tb) s (.bool (!decide (x ∈ ns))) s2 := (ev_ninT ha hb ⟨okInt x, okL ns⟩).to (by rw [inB_intL])
theorem ev_ninRL (ha : Ev K ta s (rowD ns) s1) (hb : Ev K tb s1 (.list (xs.map rowD)) s2) : Ev K (tOp (rD2 K inOk ninD) ta tb) s (.bool (!decide (ns ∈ xs))) s2 := (ev_ninT ha hb ⟨okRow ns, okRows xs⟩).to (by rw [inB_rowL])
theorem ev_eqIL (ha : Ev K ta s (.list (ns.map PyData.int)) s1) (hb : Ev K tb s1 (.list (ms.map PyData.int)) s2) : Ev K (tOp (rD2 K eqOk eqD) ta tb) s (.bool (decide (ns = ms))) s2 := (ev_eqT ha hb ⟨okL ns, okL ms⟩).to (by rw [eqv_intL])
theorem ev_neIL (ha : Ev K ta s (.list (ns.map PyData.int)) s1) (hb : Ev K tb s1 (.list (ms.map PyData.int)) s2) : Ev K (tOp (rD2 K eqOk neD) ta tb) s (.bool (!decide (ns = ms))) s2 := (ev_neT ha hb ⟨okL ns, okL ms⟩).to (by rw [eqv_intL])
theorem ev_eqIT (ha : Ev K ta s (.tuple (ns.map PyData.int)) s1) (hb : Ev K tb s1 (.tuple (ms.map PyData.int)) s2) : Ev K (tOp (rD2 K eqOk eqD) ta tb) s (.bool (decide (ns = ms))) s2 := (ev_eqT ha hb ⟨okT ns, okT ms⟩).to (by rw [eqv_intT])
theorem ev_neIT (ha : Ev K ta s (.tuple (ns.map PyData.int)) s1) (hb : Ev K tb s1 (.tuple (ms.map PyData.int)) s2) : Ev K (tOp (rD2 K eqOk neD) ta tb) s (.bool (!decide (ns = ms))) s2 := (ev_neT ha hb ⟨okT ns, okT ms⟩).to (by rw [eqv_intT])
theorem ev_eqRL (ha : Ev K ta s (.list (xs.map rowD)) s1) (hb : Ev K tb s1 (.list (ys.map rowD)) s2) : Ev K (tOp (rD2 K eqOk eqD) ta tb) s (.bool (decide (xs = ys))) s2 := (ev_eqT ha hb ⟨okRows xs, okRows ys⟩).to (by rw [eqv_rowsL])
theorem ev_neRL (ha : Ev K ta s (.list (xs.map rowD)) s1) (hb : Ev K tb s1 (.list (ys.map rowD)) s2) : Ev K (tOp (rD2 K eqOk neD) ta tb) s (.bool (!decide (xs = ys))) s2 := (ev_neT ha hb ⟨okRows xs, okRows ys⟩).to (by rw [eqv_rowsL])
theorem ev_eqRT (ha : Ev K ta s (.tuple (xs.map rowD)) s1) (hb : Ev K tb s1 (.tuple (ys.map rowD)) s2) : Ev K (tOp (rD2 K eqOk eqD) ta tb) s (.bool (decide (xs = ys))) s2 := (ev_eqT ha hb ⟨okRowsT xs, okRowsT ys⟩).to (by rw [eqv_rowsT])
theorem ev_neRT (ha : Ev K ta s (.tuple (xs.map rowD)) s1) (hb : Ev K tb s1 (.tuple (ys.map rowD)) s2) : Ev K (tOp (rD2 K eqOk neD) ta tb) s (.bool (!decide (xs = ys))) s2 := (ev_neT ha hb ⟨okRowsT xs, okRowsT ys⟩).to (by rw [eqv_rowsT])
theorem ev_eqBB {a b : Bool} (ha : Ev K ta s (.bool a) s1) (hb : Ev K tb s1 (.bool b) s2) : Ev K (tOp (rD2 K eqOk eqD) ta tb) s (.bool (a == b)) s2 := (ev_eqT ha hb ⟨(sh_bl (n := 0)).ok (by decide), (sh_bl (n := 0)).ok (by decide)⟩).to (by unfold PyData.eqv; rfl)
theorem ev_neBB {a b : Bool} (ha : Ev K ta s (.bool a) s1) (hb : Ev K tb s1 (.bool b) s2) : Ev K (tOp (rD2 K eqOk neD) ta tb) s (.bool (!(a == b))) s2 := (ev_neT ha hb ⟨(sh_bl (n := 0)).ok (by decide), (sh_bl (n := 0)).ok (by decide)⟩).to (by unfold PyData.eqv; rfl)
end
end DL

/-! ascending tuples, sorted; what explains what callers tell: plain -/
namespace CM
open DL
/-- strictly ascending, as tuples -/
abbrev SAsc (l : List (List Int)) : Prop := l.Pairwise fun a b => HT.lexLt a b = true
theorem lex_irr : ∀ a : List Int, HT.lexLt a a = false
  | [] => by rw [HT.lexLt_nil_nil]
  | x :: a => by rw [HT.lexLt_cons, if_pos rfl]; exact lex_irr a
theorem sasc_of {l : List (List Int)} (h : AscR l) (hn : l.Nodup) : SAsc l := by
  refine (h.and hn).imp fun {a b} ⟨h1, h2⟩ => ?_
  cases e : HT.lexLt a b with
  | true => rfl
  | false => exact absurd (lexT_eq e h1) h2
theorem SAsc.asc {l : List (List Int)} (h : SAsc l) : AscR l := h.imp fun {a b} h => NtL.lex_asym _ _ h
theorem SAsc.nodup {l : List (List Int)} (h : SAsc l) : l.Nodup := h.imp fun {a b} h e => by rw [e, lex_irr] at h; cases h
theorem sasc_unique : ∀ {l m : List (List Int)}, SAsc l → SAsc m → (∀ r, r ∈ l ↔ r ∈ m) → l = m
  | [], [], _, _, _ => rfl
  | [], y :: m, _, _, h => absurd ((h y).mpr (.head _)) (by simp)
  | x :: l, [], _, _, h => absurd ((h x).mp (.head _)) (by simp)
  | x :: l, y :: m, h1, h2, h => by
    have h1' := List.pairwise_cons.mp h1
    have h2' := List.pairwise_cons.mp h2
    have e : x = y := by
      rcases List.mem_cons.mp ((h x).mp (.head _)) with e | hx
      · exact e
      · rcases List.mem_cons.mp ((h y).mpr (.head _)) with e | hy
        · exact e.symm
        · have a := h1'.1 y hy
          have b := NtL.lex_asym _ _ (h2'.1 x hx)
          rw [a] at b; cases b
    subst e
    rw [sasc_unique h1'.2 h2'.2 fun k => ?_]
    constructor
    · intro hk
      rcases List.mem_cons.mp ((h k).mp (.tail _ hk)) with e | hk'
      · subst e; have := h1'.1 k hk; rw [lex_irr] at this; cases this
      · exact hk'
    · intro hk
      rcases List.mem_cons.mp ((h k).mpr (.tail _ hk)) with e | hk'
      · subst e; have := h2'.1 k hk; rw [lex_irr] at this; cases this
      · exact hk'
theorem sortR_id {l : List (List Int)} (h : AscR l) : sortR l = l := rows_unique (sortR_perm l) (sortR_sorted l) h
/-- an ascending tuple of at most most numbers, each from lo up to below n -/
def IsSub (lo n most : Int) (row : List Int) : Prop := row.Pairwise (· < ·) ∧ (∀ x ∈ row, lo ≤ x ∧ x < n) ∧ (row.length : Int) ≤ most
theorem isSub_nil {lo n most : Int} (h : 0 ≤ most) : IsSub lo n most [] := ⟨.nil, fun x h => by simp at h, h⟩
/-- the program's tuples of the last k of n numbers -/
def shorter (most : Int) (l : List (List Int)) : List (List Int) := l.filter fun r => decide ((r.length : Int) < most)
def chs (n : Nat) (most : Int) : Nat → List (List Int)
  | 0 => [[]]
  | k + 1 => [] :: sortR ((shorter most (chs n most k)).map (fun r => ((n : Int) - k - 1) :: r) ++ (chs n most k).tail)
theorem chs_head (n : Nat) (most : Int) : ∀ k, ∃ t, chs n most k = [] :: t
  | 0 => ⟨[], rfl⟩
  | k + 1 => ⟨_, rfl⟩
theorem mem_shorter {most : Int} {l : List (List Int)} {r : List Int} : r ∈ shorter most l ↔ r ∈ l ∧ (r.length : Int) < most := by simp [shorter]
theorem chs_spec (n : Nat) (most : Int) (hm : 0 ≤ most) : ∀ k, k ≤ n → (∀ r, r ∈ chs n most k ↔ IsSub ((n : Int) - k) n most r) ∧ SAsc (chs n most k)
  | 0, _ => by
    refine ⟨fun r => ?_, List.pairwise_singleton _ _⟩
    show r ∈ [[]] ↔ _
    rw [List.mem_singleton]
    constructor
    · rintro rfl; exact isSub_nil hm
    · rintro ⟨_, h, _⟩
      cases r with
      | nil => rfl
      | cons x r => have := h x (.head _); omega
  | k + 1, hk => by
    obtain ⟨ih, hs⟩ := chs_spec n most hm k (by omega)
    obtain ⟨t, ht⟩ := chs_head n most k
    have hs' := hs
    rw [ht] at hs'
    obtain ⟨h0, hst⟩ := List.pairwise_cons.mp hs'
    have htail : (chs n most k).tail = t := by rw [ht]; rfl
    have memt : ∀ r, r ∈ t ↔ (r ∈ chs n most k ∧ r ≠ []) := fun r => by
      rw [ht, List.mem_cons]
      constructor
      · intro h
        refine ⟨.inr h, fun e => ?_⟩
        subst e
        have := h0 _ h
        rw [lex_irr] at this; cases this
      · rintro ⟨h | h, hne⟩
        · exact absurd h hne
        · exact h
    let more := (shorter most (chs n most k)).map (fun r => ((n : Int) - k - 1) :: r)
    have mm : ∀ r, r ∈ more ↔ ∃ r', r = ((n : Int) - k - 1) :: r' ∧ r' ∈ chs n most k ∧ (r'.length : Int) < most := fun r => by
      show r ∈ List.map _ _ ↔ _
      rw [List.mem_map]
      constructor
      · rintro ⟨a, h1, rfl⟩
        exact ⟨a, rfl, mem_shorter.mp h1⟩
      · rintro ⟨a, rfl, h⟩
        exact ⟨a, mem_shorter.mpr h, rfl⟩
    have nd : (more ++ t).Nodup := by
      refine List.nodup_append.mpr ⟨?_, (SAsc.nodup hst), ?_⟩
      · refine List.Pairwise.map _ ?_ ((SAsc.nodup hs).filter _)
        intro a b hab e
        injection e with _ e
        exact hab e
      · intro a ha b hb e
        subst e
        obtain ⟨r', rfl, _⟩ := (mm a).mp ha
        have := ((ih _).mp ((memt _).mp hb).1).2.1 _ (.head _)
        omega
    have hstep : chs n most (k + 1) = [] :: sortR (more ++ t) := by rw [← htail]; rfl
    rw [hstep]
    have np : (sortR (more ++ t)).Nodup := (sortR_perm _).nodup_iff.mpr nd
    have ss : SAsc (sortR (more ++ t)) := sasc_of (sortR_sorted _) np
    have mem : ∀ r, r ∈ sortR (more ++ t) ↔ r ∈ more ∨ r ∈ t := fun r => by rw [(sortR_perm _).mem_iff, List.mem_append]
    have nonil : ([] : List Int) ∉ sortR (more ++ t) := fun h => by
      rcases (mem _).mp h with h | h
      · obtain ⟨r', e, _⟩ := (mm _).mp h; cases e
      · exact ((memt _).mp h).2 rfl
    refine ⟨fun r => ?_, List.pairwise_cons.mpr ⟨fun r hr => ?_, ss⟩⟩
    · rw [List.mem_cons, mem]
      constructor
      · rintro (rfl | h | h)
        · exact isSub_nil hm
        · obtain ⟨r', rfl, h1, h2⟩ := (mm _).mp h
          obtain ⟨a1, a2, a3⟩ := (ih _).mp h1
          refine ⟨List.pairwise_cons.mpr ⟨fun x hx => ?_, a1⟩, fun x hx => ?_, by simp only [List.length_cons]; omega⟩
          · have := a2 x hx; omega
          · rcases List.mem_cons.mp hx with rfl | hx
            · omega
            · have := a2 x hx; omega
        · obtain ⟨a1, a2, a3⟩ := (ih _).mp ((memt _).mp h).1
          exact ⟨a1, fun x hx => by have := a2 x hx; omega, a3⟩
      · rintro ⟨a1, a2, a3⟩
        cases r with
        | nil => exact .inl rfl
        | cons x r =>
          obtain ⟨b1, b2⟩ := List.pairwise_cons.mp a1
          have bx := a2 x (.head _)
          by_cases e : x = (n : Int) - k - 1
          · refine .inr (.inl ((mm _).mpr ⟨r, by rw [e], (ih _).mpr ⟨b2, fun y hy => ?_, ?_⟩, ?_⟩))
            · have := b1 y hy; have := a2 y (.tail _ hy); omega
            · simp only [List.length_cons] at a3; omega
            · simp only [List.length_cons] at a3; omega
          · refine .inr (.inr ((memt _).mpr ⟨(ih _).mpr ⟨a1, fun y hy => ?_, a3⟩, by simp⟩))
            rcases List.mem_cons.mp hy with rfl | hy'
            · omega
            · have := b1 y hy'; have := a2 y hy; omega
    · cases r with
      | nil => exact absurd hr nonil
      | cons x r => rw [HT.lexLt_nil_cons]
/-- the law's tuples, one number more at a time -/
def lsub (most : Int) : Nat → List (List Int)
  | 0 => [[]]
  | k + 1 => lsub most k ++ (shorter most (lsub most k)).map (fun r => r ++ [(k : Int)])
theorem lsub_head (most : Int) : ∀ k, ∃ t, lsub most k = [] :: t
  | 0 => ⟨[], rfl⟩
  | k + 1 => by obtain ⟨t, h⟩ := lsub_head most k; exact ⟨_, by rw [lsub, h]; rfl⟩
theorem lsub_spec (most : Int) (hm : 0 ≤ most) : ∀ k : Nat, (∀ r, r ∈ lsub most k ↔ IsSub 0 k most r) ∧ (lsub most k).Nodup
  | 0 => by
    refine ⟨fun r => ?_, by simp [lsub]⟩
    show r ∈ [[]] ↔ _
    rw [List.mem_singleton]
    constructor
    · rintro rfl; exact isSub_nil hm
    · rintro ⟨_, h, _⟩
      cases r with
      | nil => rfl
      | cons x r => have := h x (.head _); omega
  | k + 1 => by
    obtain ⟨ih, hn⟩ := lsub_spec most hm k
    have mm : ∀ r, r ∈ (shorter most (lsub most k)).map (fun r => r ++ [(k : Int)]) ↔ ∃ r', r = r' ++ [(k : Int)] ∧ r' ∈ lsub most k ∧ (r'.length : Int) < most := fun r => by
      rw [List.mem_map]
      constructor
      · rintro ⟨a, h1, rfl⟩
        exact ⟨a, rfl, mem_shorter.mp h1⟩
      · rintro ⟨a, rfl, h⟩
        exact ⟨a, mem_shorter.mpr h, rfl⟩
    refine ⟨fun r => ?_, ?_⟩
    · rw [lsub, List.mem_append, mm]
      constructor
      · rintro (h | ⟨r', rfl, h1, h2⟩)
        · obtain ⟨a1, a2, a3⟩ := (ih _).mp h
          exact ⟨a1, fun x hx => by have := a2 x hx; omega, a3⟩
        · obtain ⟨a1, a2, a3⟩ := (ih _).mp h1
          refine ⟨List.pairwise_append.mpr ⟨a1, List.pairwise_singleton _ _, fun x hx y hy => ?_⟩, fun x hx => ?_, by simp only [List.length_append, List.length_singleton]; omega⟩
          · rw [List.mem_singleton.mp hy]; exact (a2 x hx).2
          · rcases List.mem_append.mp hx with hx | hx
            · have := a2 x hx; omega
            · rw [List.mem_singleton.mp hx]; omega
      · rintro ⟨a1, a2, a3⟩
        by_cases hk : ∃ r', r = r' ++ [(k : Int)]
        · obtain ⟨r', rfl⟩ := hk
          obtain ⟨b1, _, b3⟩ := List.pairwise_append.mp a1
          refine .inr ⟨r', rfl, (ih _).mpr ⟨b1, fun x hx => ⟨(a2 x (List.mem_append_left _ hx)).1, b3 x hx _ (List.mem_singleton.mpr rfl)⟩, ?_⟩, ?_⟩
          · simp only [List.length_append, List.length_singleton] at a3; omega
          · simp only [List.length_append, List.length_singleton] at a3; omega
        · refine .inl ((ih _).mpr ⟨a1, fun x hx => ⟨(a2 x hx).1, ?_⟩, a3⟩)
          rcases List.eq_nil_or_concat r with rfl | ⟨r', y, rfl⟩
          · simp at hx
          · rw [List.concat_eq_append] at *
            obtain ⟨b1, _, b3⟩ := List.pairwise_append.mp a1
            have hy := a2 y (List.mem_append_right _ (List.mem_singleton.mpr rfl))
            have hne : y ≠ (k : Int) := fun e => hk ⟨r', by rw [e]⟩
            rcases List.mem_append.mp hx with hx | hx
            · have := b3 x hx y (List.mem_singleton.mpr rfl); omega
            · rw [List.mem_singleton.mp hx]; omega
    · rw [lsub]
      refine List.nodup_append.mpr ⟨hn, ?_, ?_⟩
      · refine List.Pairwise.map _ ?_ (hn.filter _)
        intro a b hab e
        exact hab (List.append_cancel_right e)
      · intro a ha b hb e
        subst e
        obtain ⟨r', rfl, _⟩ := (mm a).mp hb
        have := (((ih _).mp ha).2.1 k (List.mem_append_right _ (List.mem_singleton.mpr rfl))).2
        omega
/-- both make the same -/
theorem lsub_chs (n : Nat) (most : Int) (hm : 0 ≤ most) : sortR (lsub most n) = chs n most n := by
  obtain ⟨h1, h2⟩ := lsub_spec most hm n
  obtain ⟨h3, h4⟩ := chs_spec n most hm n (Nat.le_refl _)
  refine sasc_unique (sasc_of (sortR_sorted _) ((sortR_perm _).nodup_iff.mpr h2)) h4 fun r => ?_
  rw [(sortR_perm _).mem_iff, h1, h3]
  have : (n : Int) - n = 0 := by omega
  rw [this]
theorem mem_chs {n : Nat} {most : Int} (hm : 0 ≤ most) {r : List Int} : r ∈ chs n most n ↔ IsSub 0 n most r := by
  have := (chs_spec n most hm n (Nat.le_refl _)).1 r
  rwa [show (n : Int) - n = 0 by omega] at this
theorem chs_sasc (n : Nat) (most : Int) (hm : 0 ≤ most) : SAsc (chs n most n) := (chs_spec n most hm n (Nat.le_refl _)).2
end CM

namespace CM
open PySem DL
abbrev Clr := List Int × Bool
/-- some explains what all callers tell -/
def exPl (cs : List Clr) (some : List Int) : Bool := cs.all fun c => (some.any fun x => decide (x ∈ c.1)) == c.2
/-- the law's test is the same -/
theorem ex_law (c : Clr) (some : List Int) : (((c.1.filter fun x => decide (x ∈ some)) != []) == c.2) = ((some.any fun x => decide (x ∈ c.1)) == c.2) := by
  congr 1
  cases e : (some.any fun x => decide (x ∈ c.1)) with
  | true =>
    obtain ⟨x, h1, h2⟩ := List.any_eq_true.mp e
    have : x ∈ c.1.filter fun x => decide (x ∈ some) := List.mem_filter.mpr ⟨of_decide_eq_true h2, decide_eq_true h1⟩
    cases h : c.1.filter fun x => decide (x ∈ some) with
    | nil => rw [h] at this; cases this
    | cons y l => rfl
  | false =>
    have : c.1.filter (fun x => decide (x ∈ some)) = [] := List.filter_eq_nil_iff.mpr fun x hx h => by
      have h := of_decide_eq_true h
      have : (some.any fun x => decide (x ∈ c.1)) = true := List.any_eq_true.mpr ⟨x, h, decide_eq_true hx⟩
      rw [e] at this; cases this
    rw [this]; rfl
/-- streets that are lit -/
def litOf (cs : List Clr) : List Int := cs.flatMap fun c => if c.2 = true then [] else c.1
theorem mem_lit {cs : List Clr} {x : Int} : x ∈ litOf cs ↔ ∃ c ∈ cs, c.2 = false ∧ x ∈ c.1 := by
  unfold litOf
  rw [List.mem_flatMap]
  constructor
  · rintro ⟨c, h1, h2⟩
    cases hc : c.2 with
    | true => rw [hc] at h2; simp at h2
    | false => rw [hc] at h2; exact ⟨c, h1, hc, by simpa using h2⟩
  · rintro ⟨c, h1, h2, h3⟩
    exact ⟨c, h1, by rw [h2]; simpa using h3⟩
/-- 0, 1, .. below n -/
def upI (n : Nat) : List Int := (List.range n).map fun i : Nat => (i : Int)
theorem upTo_upI (n : Nat) : DL.upTo 0 n = (upI n).map PyData.int := by
  unfold DL.upTo upI
  rw [List.map_map]
  refine List.map_congr_left fun i _ => ?_
  show PyData.int (0 + (i : Int)) = PyData.int i
  rw [Int.zero_add]
theorem mem_upI {n : Nat} {x : Int} : x ∈ upI n ↔ 0 ≤ x ∧ x < n := by
  unfold upI
  rw [List.mem_map]
  constructor
  · rintro ⟨i, h, rfl⟩
    have := List.mem_range.mp h
    omega
  · rintro ⟨h1, h2⟩
    exact ⟨x.toNat, List.mem_range.mpr (by omega), by omega⟩
theorem upI_asc (n : Nat) : (upI n).Pairwise (· < ·) := by
  refine List.Pairwise.map _ ?_ (List.pairwise_lt_range (n := n))
  intro a b h
  omega
theorem upI_len (n : Nat) : (upI n).length = n := by simp [upI]
def freeOf (cs : List Clr) : List Int := (upI 12).filter fun x => !decide (x ∈ litOf cs)
theorem mem_free {cs : List Clr} {x : Int} : x ∈ freeOf cs ↔ (0 ≤ x ∧ x < 12) ∧ x ∉ litOf cs := by
  unfold freeOf
  rw [List.mem_filter, mem_upI]
  simp
theorem free_asc (cs : List Clr) : (freeOf cs).Pairwise (· < ·) := (upI_asc 12).filter _
theorem free_len (cs : List Clr) : (freeOf cs).length ≤ 12 := by
  have := List.length_filter_le (fun x => !decide (x ∈ litOf cs)) (upI 12)
  rw [upI_len] at this
  exact this
/-! ### picking by ascending numbers -/
def pickF (f : List Int) (r : List Int) : List Int := r.map fun i => f.getD i.toNat 0
theorem getD_at {f : List Int} {i : Nat} (h : i < f.length) : f.getD i 0 = f[i] := by simp [List.getD_eq_getElem?_getD, h]
theorem asc_at {f : List Int} (hf : f.Pairwise (· < ·)) {i j : Nat} (hij : i < j) (hj : j < f.length) : f.getD i 0 < f.getD j 0 := by
  rw [getD_at (by omega), getD_at hj]
  exact List.pairwise_iff_getElem.mp hf i j (by omega) hj hij
def InF (f : List Int) (r : List Int) : Prop := ∀ i ∈ r, 0 ≤ i ∧ i < (f.length : Int)
theorem pick_lt {f : List Int} (hf : f.Pairwise (· < ·)) {a b : Int} (ha : 0 ≤ a ∧ a < (f.length : Int)) (hb : 0 ≤ b ∧ b < (f.length : Int)) : f.getD a.toNat 0 < f.getD b.toNat 0 ↔ a < b := by
  constructor
  · intro h
    by_cases c : a < b
    · exact c
    · by_cases e : a = b
      · subst e; omega
      · have := asc_at hf (i := b.toNat) (j := a.toNat) (by omega) (by omega)
        omega
  · intro h
    exact asc_at hf (by omega) (by omega)
theorem lex_pick {f : List Int} (hf : f.Pairwise (· < ·)) : ∀ {a b : List Int}, InF f a → InF f b → HT.lexLt (pickF f a) (pickF f b) = HT.lexLt a b
  | [], [], _, _ => rfl
  | [], b :: bs, _, _ => by show HT.lexLt [] (_ :: _) = _; rw [HT.lexLt_nil_cons, HT.lexLt_nil_cons]
  | a :: as, [], _, _ => by show HT.lexLt (_ :: _) [] = _; rw [HT.lexLt_cons_nil, HT.lexLt_cons_nil]
  | a :: as, b :: bs, h1, h2 => by
    have ha := h1 a (.head _)
    have hb := h2 b (.head _)
    show HT.lexLt (f.getD a.toNat 0 :: pickF f as) (f.getD b.toNat 0 :: pickF f bs) = _
    rw [HT.lexLt_cons, HT.lexLt_cons]
    have hp := pick_lt hf ha hb
    by_cases e : a = b
    · subst e
      rw [if_pos rfl, if_pos rfl]
      exact lex_pick hf (fun i hi => h1 i (.tail _ hi)) fun i hi => h2 i (.tail _ hi)
    · have hne : f.getD a.toNat 0 ≠ f.getD b.toNat 0 := fun z => by
        have hp2 := pick_lt hf hb ha
        rcases Int.lt_or_gt_of_ne e with c | c
        · have := hp.mpr c; omega
        · have := hp2.mpr c; omega
      rw [if_neg e, if_neg hne]
      by_cases c : a < b
      · rw [decide_eq_true c, decide_eq_true (hp.mpr c)]
      · rw [decide_eq_false c, decide_eq_false fun z => c (hp.mp z)]
def posOf (x : Int) : List Int → Nat
  | [] => 0
  | y :: l => if x = y then 0 else posOf x l + 1
theorem posOf_lt {x : Int} : ∀ {f : List Int}, x ∈ f → posOf x f < f.length
  | y :: l, h => by
    unfold posOf
    by_cases e : x = y
    · rw [if_pos e]; simp
    · rw [if_neg e]
      have := posOf_lt ((List.mem_cons.mp h).resolve_left e)
      simp only [List.length_cons]; omega
theorem posOf_at {x : Int} : ∀ {f : List Int}, x ∈ f → f.getD (posOf x f) 0 = x
  | y :: l, h => by
    unfold posOf
    by_cases e : x = y
    · rw [if_pos e]; exact e.symm
    · rw [if_neg e]
      exact posOf_at ((List.mem_cons.mp h).resolve_left e)
theorem mem_picked {f : List Int} (hf : f.Pairwise (· < ·)) {most : Int} (hm : 0 ≤ most) {r : List Int} : r ∈ (chs f.length most f.length).map (pickF f) ↔ r.Pairwise (· < ·) ∧ (∀ x ∈ r, x ∈ f) ∧ (r.length : Int) ≤ most := by
  rw [List.mem_map]
  constructor
  · rintro ⟨r', h, rfl⟩
    obtain ⟨a1, a2, a3⟩ := (mem_chs hm).mp h
    refine ⟨?_, fun x hx => ?_, by simpa [pickF] using a3⟩
    · unfold pickF
      rw [List.pairwise_map]
      exact List.Pairwise.imp_of_mem (fun {i j} hi hj hij => (pick_lt hf (a2 i hi) (a2 j hj)).mpr hij) a1
    · obtain ⟨i, hi, rfl⟩ := List.mem_map.mp hx
      have := a2 i hi
      rw [getD_at (by omega)]
      exact List.getElem_mem _
  · rintro ⟨a1, a2, a3⟩
    refine ⟨r.map fun x => (posOf x f : Int), (mem_chs hm).mpr ⟨?_, fun i hi => ?_, by simpa using a3⟩, ?_⟩
    · rw [List.pairwise_map]
      refine List.Pairwise.imp_of_mem (fun {x y} hx hy hxy => ?_) a1
      have hp := (pick_lt hf (a := (posOf x f : Int)) (b := (posOf y f : Int)) ⟨by omega, by have := posOf_lt (a2 x hx); omega⟩ ⟨by omega, by have := posOf_lt (a2 y hy); omega⟩).mp
      simp only [Int.toNat_natCast, posOf_at (a2 x hx), posOf_at (a2 y hy)] at hp
      exact hp hxy
    · obtain ⟨x, hx, rfl⟩ := List.mem_map.mp hi
      have := posOf_lt (a2 x hx)
      omega
    · unfold pickF
      rw [List.map_map]
      conv => rhs; rw [← List.map_id r]
      refine List.map_congr_left fun x hx => ?_
      show f.getD ((posOf x f : Int)).toNat 0 = x
      rw [Int.toNat_natCast]
      exact posOf_at (a2 x hx)
theorem picked_sasc {f : List Int} (hf : f.Pairwise (· < ·)) {most : Int} (hm : 0 ≤ most) : SAsc ((chs f.length most f.length).map (pickF f)) := by
  unfold SAsc
  rw [List.pairwise_map]
  refine List.Pairwise.imp_of_mem (fun {a b} ha hb h => ?_) (chs_sasc f.length most hm)
  rw [lex_pick hf ((mem_chs hm).mp ha).2.1 ((mem_chs hm).mp hb).2.1]
  exact h
/-- what is blamed -/
def blOf (cs : List Clr) (most : Int) : List (List Int) := ((chs (freeOf cs).length most (freeOf cs).length).map (pickF (freeOf cs))).filter (exPl cs)
theorem bl_mem {cs : List Clr} {most : Int} (hm : 0 ≤ most) {r : List Int} : r ∈ blOf cs most ↔ IsSub 0 12 most r ∧ exPl cs r = true := by
  unfold blOf
  rw [List.mem_filter, mem_picked (free_asc cs) hm]
  constructor
  · rintro ⟨⟨a1, a2, a3⟩, h⟩
    exact ⟨⟨a1, fun x hx => (mem_free.mp (a2 x hx)).1, a3⟩, h⟩
  · rintro ⟨⟨a1, a2, a3⟩, h⟩
    refine ⟨⟨a1, fun x hx => mem_free.mpr ⟨a2 x hx, fun hl => ?_⟩, a3⟩, h⟩
    obtain ⟨c, hc, h2, h3⟩ := mem_lit.mp hl
    have := List.all_eq_true.mp h c hc
    rw [h2] at this
    have ht : (r.any fun x => decide (x ∈ c.1)) = true := List.any_eq_true.mpr ⟨x, hx, decide_eq_true h3⟩
    rw [ht] at this
    cases this
theorem bl_sasc (cs : List Clr) {most : Int} (hm : 0 ≤ most) : SAsc (blOf cs most) := (picked_sasc (free_asc cs) hm).filter _
/-- the law's rows: all that explain, and of these the short ones -/
def everyOf (cs : List Clr) : List (List Int) := (chs 12 12 12).filter (exPl cs)
def dueOf (cs : List Clr) (most : Int) : List (List Int) := (everyOf cs).filter fun r => decide ((r.length : Int) ≤ most)
theorem due_bl {cs : List Clr} {most : Int} (h0 : 0 ≤ most) (h1 : most ≤ 12) : dueOf cs most = blOf cs most := by
  refine sasc_unique (((chs_sasc 12 12 (by omega)).filter _).filter _) (bl_sasc cs h0) fun r => ?_
  rw [bl_mem h0]
  show r ∈ ((chs 12 12 12).filter (exPl cs)).filter _ ↔ _
  rw [List.mem_filter, List.mem_filter, mem_chs (by omega)]
  simp only [decide_eq_true_eq]
  constructor
  · rintro ⟨⟨⟨a1, a2, a3⟩, h⟩, h3⟩
    exact ⟨⟨a1, a2, h3⟩, h⟩
  · rintro ⟨⟨a1, a2, a3⟩, h⟩
    exact ⟨⟨⟨a1, a2, by omega⟩, h⟩, a3⟩
theorem every_bl (cs : List Clr) : everyOf cs = blOf cs 12 := by
  rw [← due_bl (cs := cs) (most := 12) (by omega) (by omega)]
  refine (List.filter_eq_self.mpr fun r hr => decide_eq_true ?_).symm
  exact ((mem_chs (by omega)).mp (List.mem_filter.mp hr).1).2.2
end CM

local macro_rules | `(tactic| walk_at "pl") => `(tactic| first | exact CM.pl_rows | exact CM.pl_lamps | exact CM.pl_crews | exact CM.pl_work | exact CM.pl_every | exact CM.pl_early | exact CM.pl_sync | exact CM.pl_burst | exact CM.pl_gap | exact CM.pl_trips | exact CM.pl_drift | exact CM.pl_cloud | exact CM.pl_most | exact CM.pl_fixed | exact CM.pl_spare | kernel_rfl)
local macro_rules | `(tactic| walk_at "eps") => `(tactic| first | exact DL.ep_nil | (apply DL.ep_consS; (walk_at "ev"); walk_at "eps"))
local macro_rules | `(tactic| walk_at "side") => `(tactic| first | rfl | trivial | assumption | decide | omega | (simp only [List.length_nil, List.length_cons, List.length_map, List.length_append]; first | decide | omega))
local macro_rules | `(tactic| walk_at "mul") => `(tactic| first | exact Or.inl ⟨by decide, by decide⟩ | exact Or.inr ⟨by decide, by decide⟩ | exact Or.inl ⟨by omega, by omega⟩ | exact Or.inr ⟨by omega, by omega⟩)
local macro_rules | `(tactic| walk_at "dk") => `(tactic| first | assumption | (apply CM.DOk.rd; walk_at "dk"))
local macro_rules | `(tactic| walk_at "R") => `(tactic| first | apply_assumption | (constructor <;> first | rfl | assumption | exact List.cons_ne_nil _ _ | walk_at "dk" | walk_at "side"))
local macro_rules | `(tactic| walk_at "ea") => `(tactic| first
  | exact DL.ea_nil
  | (apply DL.ea_cons; (walk_at "ev"); walk_at "ea"))
local macro_rules | `(tactic| walk_at "ev") => `(tactic| first
  | exact DL.ev_int | exact DL.ev_bl | exact DL.ev_str | exact DL.ev_non | exact DL.ev_var rfl
  | (apply DL.ev_addI; (walk_at "ev"); walk_at "ev")
  | (apply DL.ev_subI; (walk_at "ev"); walk_at "ev")
  | (apply DL.ev_mulVI; (walk_at "ev"); (walk_at "ev"); walk_at "mul")
  | (apply DL.ev_mulVT; (walk_at "ev"); (walk_at "ev"); walk_at "side")
  | (apply DL.ev_mulVL; (walk_at "ev"); (walk_at "ev"); walk_at "side")
  | (apply DL.ev_divI; (walk_at "ev"); (walk_at "ev"); walk_at "side")
  | (apply DL.ev_modI; (walk_at "ev"); (walk_at "ev"); walk_at "side")
  | (apply DL.ev_ltI; (walk_at "ev"); walk_at "ev")
  | (apply DL.ev_leI; (walk_at "ev"); walk_at "ev")
  | (apply DL.ev_gtI; (walk_at "ev"); walk_at "ev")
  | (apply DL.ev_geI; (walk_at "ev"); walk_at "ev")
  | (apply DL.ev_eqI; (walk_at "ev"); walk_at "ev")
  | (apply DL.ev_neI; (walk_at "ev"); walk_at "ev")
  | (apply DL.ev_isN; (walk_at "ev"); exact DL.ev_non)
  | (apply DL.ev_isnN; (walk_at "ev"); exact DL.ev_non)
  | (apply DL.ev_negI; walk_at "ev")
  | (apply DL.ev_lenO; rfl)
  | (apply DL.ev_lenL; walk_at "ea")
  | (apply DL.ev_lenS; walk_at "ev")
  | (apply DL.ev_lenT; walk_at "ea")
  | (apply DL.ev_ixO; rfl; (walk_at "ev"); rfl; rfl)
  | (apply DL.ev_ixL; (walk_at "ev"); (walk_at "ev"); rfl)
  | (apply DL.ev_ixT; (walk_at "ev"); (walk_at "ev"); rfl)
  | (apply DL.ev_addL; (walk_at "ev"); (walk_at "ev"); walk_at "side")
  | (apply DL.ev_addT; (walk_at "ev"); (walk_at "ev"); walk_at "side")
  | (apply DL.ev_tup; (walk_at "ea"); walk_at "side")
  | (apply DL.ev_lst; (walk_at "ea"); walk_at "side")
  | (apply DL.ev_not; walk_at "ev")
  | (apply DL.ev_and; (walk_at "ev"); (intro _; walk_at "ev"))
  | (apply DL.ev_or; (walk_at "ev"); (intro _; walk_at "ev"))
  | (apply DL.ev_powI; (walk_at "ev"); (walk_at "ev"); walk_at "side")
  | (apply DL.ev_intI; walk_at "ev")
  | (apply DL.ev_absI; walk_at "ev")
  | (apply DL.ev_maxI; (walk_at "ev"); walk_at "ev")
  | (apply DL.ev_minI; (walk_at "ev"); walk_at "ev")
  | (apply DL.ev_slS; (walk_at "ev"); (walk_at "ep"); walk_at "ep")
  | (apply DL.ev_slL; (walk_at "ev"); (walk_at "ep"); walk_at "ep")
  | (apply DL.ev_slT; (walk_at "ev"); (walk_at "ep"); walk_at "ep")
  | (apply DL.ev_tupO; rfl)
  | (apply DL.ev_tupL; walk_at "ev")
  | (apply DL.ev_tupT; walk_at "ev")
  | (apply DL.ev_sortL; walk_at "ev")
  | (apply DL.ev_sortT; walk_at "ev")
  | (apply DL.ev_lstL; walk_at "ev")
  | (apply DL.ev_lstT; walk_at "ev")
  | (apply DL.ev_dgetS; (walk_at "ev"); walk_at "pl")
  | (apply DL.ev_call; (walk_at "ea"); walk_at "R")
  | (apply DL.ev_callM; (walk_at "ea"); (walk_at "ea"); rfl; rfl; decide; walk_at "R")
  | (apply DL.ev_callL; rfl; (walk_at "ea"); rfl; (intro _; walk_at "R")))
local macro_rules | `(tactic| walk_at "et") => `(tactic| first
  | (apply DL.et_test; walk_at "ev")
  | (apply DL.et_B; walk_at "ev")
  | (apply DL.et_not; walk_at "et")
  | (apply DL.et_andF; (apply DL.EvT.to); (walk_at "et"); walk_at "bool")
  | (apply DL.et_orT; (apply DL.EvT.to); (walk_at "et"); walk_at "bool")
  | (apply DL.et_and; (walk_at "et"); (intro _; walk_at "et"))
  | (apply DL.et_or; (walk_at "et"); (intro _; walk_at "et")))
local macro_rules | `(tactic| walk_at "bool") => `(tactic| first | rfl | assumption | (simp only [Bool.not_false, Bool.not_true, Bool.or_false, Bool.or_true, Bool.and_true, Bool.and_false, Bool.not_eq_true', Bool.not_eq_false', decide_eq_true_eq, decide_eq_false_iff_not, Bool.or_eq_true, Bool.or_eq_false_iff, Bool.and_eq_true, Bool.and_eq_false_iff] <;> first | assumption | omega) | (simp [*]; done))
local macro_rules | `(tactic| walk_at "st") => `(tactic| first
  | (apply DL.run_asg; walk_at "ev")
  | (apply DL.run_asgT; (walk_at "ev"); walk_at "tg")
  | (apply DL.run_drop; walk_at "ev")
  | (apply DL.run_parX; walk_at "ex")
  | (apply DL.run_parX3; walk_at "ex")
  | (apply DL.run_aug; rfl; walk_at "ev")
  | (apply DL.run_append; rfl; (walk_at "ev"); rfl; walk_at "side")
  | (apply DL.run_putDS; (walk_at "ev"); rfl; exact DL.le_size (by decide))
  | (apply DL.run_setL; (walk_at "ev"); rfl; (walk_at "ev"); rfl; rfl)
  | (apply DL.run_ret; walk_at "ev"))
local macro_rules | `(tactic| walk_at "ex") => `(tactic| first
  | exact DL.ex_nil
  | (apply DL.ex_res; (apply DL.eo_lst; (walk_at "ea"); walk_at "side"); walk_at "ex")
  | (apply DL.ex_dat; (walk_at "ev"); walk_at "ex"))
local macro_rules | `(tactic| walk_at "d") => `(tactic| try dsimp only [DL.S.set, List.set_cons_zero, List.set_cons_succ, List.map_cons, List.map_nil])
local macro_rules | `(tactic| walk_at "s") => `(tactic| (apply DL.run_seq; (walk_at "st"); walk_at "d"))
local macro_rules | `(tactic| walk_at "tb") => `(tactic| (apply DL.EvT.to; (walk_at "et"); walk_at "bool"))
local macro_rules | `(tactic| walk_at "no") => `(tactic| (apply DL.run_seq; (apply DL.run_no; (walk_at "tb"); exact DL.run_next); walk_at "d"))
local macro_rules | `(tactic| walk_at "ep") => `(tactic| first | exact DL.ep_none | (apply DL.ep_some; walk_at "ev"))
local macro_rules | `(tactic| walk_at "fo") => `(tactic| first | exact DL.Fo.nil | (apply DL.Fo.same; walk_at "fo") | (apply DL.Fo.unk; walk_at "fo") | (apply DL.Fo.int; (first | omega | (simp; done)); walk_at "fo"))
local macro_rules | `(tactic| walk_at "le") => `(tactic| (apply DL.run_le; (walk_at "st"); (walk_at "d"); apply DL.Fo.le; walk_at "fo"))
local macro_rules | `(tactic| walk_at "ret") => `(tactic| (apply DL.run_retle; (walk_at "ev"); apply DL.Fo.le; walk_at "fo"))
local macro_rules | `(tactic| walk_at "retT") => `(tactic| (apply DL.run_retle; (apply DL.Ev.to; (walk_at "ev"); walk_at "bool"); apply DL.Fo.le; walk_at "fo"))
local macro_rules | `(tactic| walk_at "lam") => `(tactic| (apply DL.ev_lamX; intro _; apply DL.er_call; (walk_at "ea"); walk_at "R"))
local macro_rules | `(tactic| walk_at "w") => `(tactic| (dsimp only [DL.S.wipe, DL.wipeL, DL.S.set, List.set_cons_zero, List.set_cons_succ]))
local macro_rules | `(tactic| walk_at "lv") => `(tactic| first | exact DL.Lv.nil | (apply DL.Lv.dat; walk_at "lv") | (apply DL.Lv.unk; walk_at "lv") | (apply DL.Lv.res (by first | rfl | assumption) DL.pin_lst; walk_at "lv"))
local macro_rules | `(tactic| walk_at "tg") => `(tactic| first | exact DL.tg_name | (apply DL.tg_tup; (walk_at "tgs"); rfl))
local macro_rules | `(tactic| walk_at "tgs") => `(tactic| first | exact DL.tg_nil | (apply DL.tg_cons; (walk_at "tg"); walk_at "tgs"))
local macro_rules | `(tactic| walk_at "nr") => `(tactic| first | exact DL.noRes_nil | (apply DL.noRes_u rfl; walk_at "nr") | (apply DL.noRes_d rfl; walk_at "nr"))
local macro_rules | `(tactic| walk_at "bk") => `(tactic| first | exact DL.Bk.nil | (apply DL.Bk.keep (by decide); walk_at "bk") | (apply DL.Bk.own (by decide); walk_at "bk") | (apply DL.Bk.unk; walk_at "bk"))
local macro_rules | `(tactic| walk_at "tv") => `(tactic| first | exact DL.tv_name (by decide) | (apply DL.tv_tup; (walk_at "tvs"); rfl))
local macro_rules | `(tactic| walk_at "tvs") => `(tactic| first | exact DL.tv_nil | (apply DL.tv_cons; (walk_at "tv"); walk_at "tvs"))
local macro_rules | `(tactic| walk_at "rs") => `(tactic| (apply DL.run_end; (apply DL.run_dropX; apply DL.er_call; (walk_at "ea"); walk_at "R"); rfl))
local macro_rules | `(tactic| walk_at "hw") => `(tactic| (intro y; (walk_at "w"); exact DL.Fo.le (by walk_at "fo")))
local macro_rules | `(tactic| walk_at "lcR") => `(tactic| (apply DL.ev_lcR; (walk_at "ev"); (walk_at "side"); (walk_at "nr"); (walk_at "hw"); (intro k hk; walk_at "w")))
local macro_rules | `(tactic| walk_at "lcI") => `(tactic| (apply DL.ev_lcI; (walk_at "ev"); rfl; (walk_at "side"); (walk_at "nr"); (walk_at "hw"); (intro x hx; walk_at "w")))

namespace CM
open PySem PySem.Spec PyProof.Rows L2 DL
variable {K : PySem.W.Frag} {C : Str → Addr} {T : List (Addr × Str)} {E : XK}
def isInt : D → Bool
  | .int _ => true
  | _ => false
def isIn (d : D) (lo hi : Int) : Bool := match d with
  | .int n => decide (lo ≤ n) && decide (n ≤ hi)
  | _ => false
inductive R_is_integer (K : PySem.W.Frag) (C : Str → Addr) (T : List (Addr × Str)) : FR
  | mk {v g} (h : noScr v = true) : R_is_integer K C T ⟨[.dat v], g⟩ (.rt (.bool (isInt v)) ⟨[.dat v], g⟩)
inductive R_is_in (K : PySem.W.Frag) (C : Str → Addr) (T : List (Addr × Str)) : FR
  | mk {v lo hi g} (h : noScr v = true) : R_is_in K C T ⟨[.dat v, .dat (.int lo), .dat (.int hi)], g⟩ (.rt (.bool (isIn v lo hi)) ⟨[.dat v, .dat (.int lo), .dat (.int hi)], g⟩)
inductive R_demand (K : PySem.W.Frag) (C : Str → Addr) (T : List (Addr × Str)) : FR
  | ok {b x g} (h : b = true) : R_demand K C T ⟨[.dat (.bool b), .dat x], g⟩ (.rt .none ⟨[.dat (.bool b), .dat x], g⟩)
  | no {b x g} (h : b = false) : R_demand K C T ⟨[.dat (.bool b), .dat x], g⟩ (.ex (C "BadArgument") "name" x ⟨[.dat (.bool b), .dat x], g⟩)
def t_is_integer (K : PySem.W.Frag) (C : Str → Addr) (T : List (Addr × Str)) (E : XK) : TS :=
  (tRet (tAndV (tCB (rIsi K) (tCons (tVar 0) (tCons (tC (.ty "int")) tNil))) (tNotV (tCB (rIsi K) (tCons (tVar 0) (tCons (tC (.ty "bool")) tNil))))))
def t_is_in (K : PySem.W.Frag) (C : Str → Addr) (T : List (Addr × Str)) (E : XK) : TS :=
  (tRet (tAndV (tCall (spF K (R_is_integer K C T)) [] E (tCons (tVar 0) tNil)) (tChain (rD2 K ordOk leD) (rD2 K ordOk leD) (tVar 1) (tVar 0) (tVar 2))))
def t_demand (K : PySem.W.Frag) (C : Str → Addr) (T : List (Addr × Str)) (E : XK) : TS :=
  (tIfS (tNot (tB (tVar 0))) (BX.tRaiseX (C "BadArgument") "name" (fun cls d _ H => E cls d H) (tCons (tVar 1) tNil)) tNext)
theorem rd_is_integer {v : D} {g} (hn : noScr v = true) : Run K E (t_is_integer K C T E) ⟨[.dat v], g⟩ (.rt (.bool (isInt v)) ⟨[.dat v], g⟩) := by
  refine run_ret (Ev.to (ev_and (ev_isi (ev_var rfl) kit_int hn _ rfl) fun _ => ev_not (ev_isi (ev_var rfl) kit_bool hn _ rfl)) ?_)
  cases v <;> rfl
theorem rd_is_in {v : D} {lo hi : Int} {g} (hn : noScr v = true) : Run K E (t_is_in K C T E) ⟨[.dat v, .dat (.int lo), .dat (.int hi)], g⟩ (.rt (.bool (isIn v lo hi)) ⟨[.dat v, .dat (.int lo), .dat (.int hi)], g⟩) := by
  refine run_ret ?_
  cases v with
  | int n => exact Ev.to (ev_and (a := true) (ev_call (ea_cons (ev_var rfl) ea_nil) (.mk hn)) fun _ => ev_chainI (ev_var rfl) (ev_var rfl) (ev_var rfl)) rfl
  | none => exact ev_andF (ev_call (ea_cons (ev_var rfl) ea_nil) (.mk hn))
  | bool b => exact ev_andF (ev_call (ea_cons (ev_var rfl) ea_nil) (.mk hn))
  | str b => exact ev_andF (ev_call (ea_cons (ev_var rfl) ea_nil) (.mk hn))
  | list b => exact ev_andF (ev_call (ea_cons (ev_var rfl) ea_nil) (.mk hn))
  | tuple b => exact ev_andF (ev_call (ea_cons (ev_var rfl) ea_nil) (.mk hn))
  | dict b => exact ev_andF (ev_call (ea_cons (ev_var rfl) ea_nil) (.mk hn))
theorem rd_demand_ok {b : Bool} {x : D} {g} (h : b = true) : Run K E (t_demand K C T E) ⟨[.dat (.bool b), .dat x], g⟩ (.nx ⟨[.dat (.bool b), .dat x], g⟩) := by
  subst h
  exact run_no (et_not (b := true) (et_B (ev_var rfl))) run_next
theorem rd_demand_no {b : Bool} {x : D} {g} (h : b = false) : Run K E (t_demand K C T E) ⟨[.dat (.bool b), .dat x], g⟩ (.ex (C "BadArgument") "name" x ⟨[.dat (.bool b), .dat x], g⟩) := by
  subst h
  exact run_yes (et_not (b := false) (et_B (ev_var rfl))) (run_raise (ea_cons (ev_var rfl) ea_nil) fun _ _ _ _ h => h)
inductive R__law_roll (K : PySem.W.Frag) (C : Str → Addr) (T : List (Addr × Str)) : FR
  | mk {v d t n g} (hd : DOk n d) (hn : n < 1000000000) (h0 : 0 < t) (h1 : t < 1073741824) : R__law_roll K C T ⟨[.res (lstR K (some v) (dl d)), .dat (.int t)], g⟩ (.rt (.int (rv d t)) ⟨[.res (lstR K (some v) (dl (CM.rd d t))), .dat (.int t)], g⟩)
inductive R__law_pick (K : PySem.W.Frag) (C : Str → Addr) (T : List (Addr × Str)) : FR
  | mk {v d xs n g} (hd : DOk n d) (hn : n < 1000000000) (h0 : xs ≠ []) (h1 : xs.length < 1073741824) : R__law_pick K C T ⟨[.res (lstR K (some v) (dl d)), .dat (.list xs)], g⟩ (.rt (pick d xs) ⟨[.res (lstR K (some v) (dl (CM.rd d xs.length))), .dat (.list xs)], g⟩)
def t__law_roll (K : PySem.W.Frag) (C : Str → Addr) (T : List (Addr × Str)) (E : XK) : TS :=
  (tSeq (tIfS (tTest (tOp (rD2 K ordOk gtD) (tOp (rD2 K ixOk ixD) (tVar 0) (tC (.int 0))) (tC (.int 0)))) (tSeq (tAsg (tOp (rD2 K modOk modD) (tCB (rDn K intOk intD) (tCons (tOp (rD2 K ixOk ixD) (tVar 0) (tC (.int 0))) tNil)) (tVar 1)) (gName 2))
    (tSeq (tAsg (tOp (rD2 K divOk divD) (tOp (rD2 K ixOk ixD) (tVar 0) (tC (.int 0))) (tVar 1)) (gSub (tVar 0) (tC (.int 0)) rSetL))
    (tRet (tVar 2)))) tNext)
    (tSeq (tAsg (tOp (rD2 K addOk addD) (tOp (rD2 K ixOk ixD) (tVar 0) (tC (.int 2))) (tC (.int 1))) (gSub (tVar 0) (tC (.int 2)) rSetL))
    (tSeq (tAsg (tOp (rD2 K modOk modD) (tCB (rDn K intOk intD) (tCons (tOp (rD2 K addOk addD) (tOp (rD2 K addOk addD) (tOp (rD2 K mulOkV mulD) (tOp (rD2 K ixOk ixD) (tVar 0) (tC (.int 1))) (tC (.int 52501))) (tOp (rD2 K mulOkV mulD) (tOp (rD2 K mulOkV mulD) (tOp (rD2 K ixOk ixD) (tVar 0) (tC (.int 2))) (tOp (rD2 K ixOk ixD) (tVar 0) (tC (.int 2)))) (tC (.int 1009)))) (tC (.int 77))) tNil)) (tC (.int 2147480009))) (gSub (tVar 0) (tC (.int 1)) rSetL))
    (tRet (tOp (rD2 K modOk modD) (tCB (rDn K intOk intD) (tCons (tOp (rD2 K divOk divD) (tOp (rD2 K ixOk ixD) (tVar 0) (tC (.int 1))) (tC (.int 211))) tNil)) (tVar 1))))))
def t__law_pick (K : PySem.W.Frag) (C : Str → Addr) (T : List (Addr × Str)) (E : XK) : TS :=
  (tRet (tOp (rD2 K ixOk ixD) (tVar 1) (tCall (spF K (R__law_roll K C T)) [] E (tCons (tVar 0) (tCons (tCB (rDn K lenOk lenD) (tCons (tVar 1) tNil)) tNil)))))
theorem rd__law_roll {ov : Option V} {d : Dice} {t n : Int} {g} (hd : DOk n d) (hn : n < 1000000000) (h0 : 0 < t) (h1 : t < 1073741824) :
    ∃ s, Run K E (t__law_roll K C T E) ⟨[.res (lstR K ov (dl d)), .dat (.int t), .unk], g⟩ (.rt (.int (rv d t)) s) ∧ s.s[0]? = some (.res (lstR K ov (dl (CM.rd d t)))) ∧ s.g = g := by
  have := hd.b0; have := hd.b1; have := hd.c0; have := hd.c1
  obtain ⟨a, b, c⟩ := d
  simp only [dl] at *
  by_cases ha : 0 < a
  · have e1 : CM.rd ⟨a, b, c⟩ t = ⟨a / t, b, c⟩ := by unfold CM.rd; rw [if_pos ha]
    have e2 : rv ⟨a, b, c⟩ t = a % t := by unfold rv; rw [if_pos ha]
    rw [e1, e2]
    apply Exists.intro
    refine ⟨?_, ?_, ?_⟩
    ·
      apply run_end
      · apply run_yes
        · walk_at "tb"
        walk_at "s"
        walk_at "s"
        walk_at "st"
      · rfl
    · rfl
    · rfl
  · have e1 : CM.rd ⟨a, b, c⟩ t = ⟨a, (b * 52501 + (c + 1) * (c + 1) * 1009 + 77) % 2147480009, c + 1⟩ := by unfold CM.rd; rw [if_neg ha]
    have e2 : rv ⟨a, b, c⟩ t = (b * 52501 + (c + 1) * (c + 1) * 1009 + 77) % 2147480009 / 211 % t := by unfold rv; rw [if_neg ha, e1]
    rw [e1, e2]
    apply Exists.intro
    refine ⟨?_, ?_, ?_⟩
    ·
      walk_at "no"
      walk_at "s"
      walk_at "s"
      walk_at "st"
    · rfl
    · rfl
theorem rd__law_pick {v : V} {d : Dice} {xs : List D} {n : Int} {g} (hd : DOk n d) (hn : n < 1000000000) (h0 : xs ≠ []) (h1 : xs.length < 1073741824) :
    Run K E (t__law_pick K C T E) ⟨[.res (lstR K (some v) (dl d)), .dat (.list xs)], g⟩ (.rt (pick d xs) ⟨[.res (lstR K (some v) (dl (CM.rd d xs.length))), .dat (.list xs)], g⟩) := by
  have hl : 0 < xs.length := List.length_pos_iff.mpr h0
  refine run_ret (ev_ixL (ev_var rfl) (ev_callL rfl (ea_cons (ev_lenL (ea_cons (ev_var rfl) ea_nil)) ea_nil) rfl fun v => .mk hd hn (by omega) (by omega)) ?_)
  exact pick_at h0
end CM

namespace CM
open PySem PySem.Spec PyProof.Rows L2 DL
variable {K : PySem.W.Frag} {C : Str → Addr} {T : List (Addr × Str)} {E : XK}
def own (ns : List Int) (spot : Int) : Int := if spot < ns.length then ns.getD spot.toNat 0 else 733 * spot + 29
def mix (m cell : Int) : Int := (m * 48271 + cell % 2147480009) % 2147480009
def cells (ns : List Int) (spot : Int) : List Int := ns.take 6 ++ [own ns spot]
def mixed (ns : List Int) (spot : Int) : Int := (cells ns spot).foldl mix (910003 + 7907 * spot)
def dice0 (ns : List Int) (spot : Int) : Dice := ⟨if own ns spot < 0 ∨ 10 ^ 16 ≤ own ns spot then (if own ns spot < 0 then - own ns spot else own ns spot) else 0, mixed ns spot, 0⟩
theorem mix_ok (m cell : Int) : 0 ≤ mix m cell ∧ mix m cell < 2147480009 := ⟨Int.emod_nonneg _ (by decide), Int.emod_lt_of_pos _ (by decide)⟩
theorem dice0_ok (ns : List Int) (spot : Int) : DOk 0 (dice0 ns spot) := by
  have h : 0 ≤ mixed ns spot ∧ mixed ns spot < 2147480009 := by
    unfold mixed cells
    rw [List.foldl_append]
    exact mix_ok _ _
  exact ⟨h.1, h.2, Int.le_refl _, Int.le_refl _⟩
inductive R__law_dice (K : PySem.W.Frag) (C : Str → Addr) (T : List (Addr × Str)) : FR
  | mk {ns spot g} (h : 0 ≤ spot) : R__law_dice K C T ⟨[.dat (scrD ns), .dat (.int spot)], g⟩ (.ro (lstR K none (dl (dice0 ns spot))) ⟨[.dat (scrD ns), .dat (.int spot)], g⟩)
def t__law_dice (K : PySem.W.Frag) (C : Str → Addr) (T : List (Addr × Str)) (E : XK) : TS :=
  (tSeq (tAsg (tIf (tTest (tOp (rD2 K ltXOk ltXD) (tVar 1) (tCB (rDn K lenOk lenD) (tCons (tVar 0) tNil)))) (tOp (rD2 K ixOk ixD) (tVar 0) (tVar 1)) (tOp (rD2 K addOk addD) (tOp (rD2 K mulOkV mulD) (tC (.int 733)) (tVar 1)) (tC (.int 29)))) (gName 2))
    (tSeq (tAsg (tOp (rD2 K addOk addD) (tC (.int 910003)) (tOp (rD2 K mulOkV mulD) (tC (.int 7907)) (tVar 1))) (gName 3))
    (tSeq (tFor (iSeq K (tOp (rD2 K addOk addD) (tSl (rSlU K) (tVar 0) tNoPart (tPart (tC (.int 6)))) (tLst (tCons (tVar 2) tNil)))) (gName 4) (tAsg (tOp (rD2 K modOk modD) (tCB (rDn K intOk intD) (tCons (tOp (rD2 K addOk addD) (tOp (rD2 K mulOkV mulD) (tVar 3) (tC (.int 48271))) (tOp (rD2 K modOk modD) (tCB (rDn K intOk intD) (tCons (tVar 4) tNil)) (tC (.int 2147480009)))) tNil)) (tC (.int 2147480009))) (gName 3)))
    (tRet (tLst (tCons (tIf (tOr (tTest (tOp (rD2 K ltXOk ltXD) (tVar 2) (tC (.int 0)))) (tTest (tOp (rD2 K ordOk geD) (tVar 2) (tOp (rD2 K powOk powD) (tC (.int 10)) (tC (.int 16)))))) (tCB (rDn K absOk absD) (tCons (tVar 2) tNil)) (tC (.int 0))) (tCons (tVar 3) (tCons (tC (.int 0)) tNil))))))))
theorem rd__law_dice {ns : List Int} {spot : Int} {g} (h : 0 ≤ spot) :
    ∃ s, Run K E (t__law_dice K C T E) ⟨[.dat (scrD ns), .dat (.int spot), .unk, .unk, .unk], g⟩ (.ro (lstR K none (dl (dice0 ns spot))) s) ∧ s.g = g := by
  apply Exists.intro
  apply And.intro
  · apply run_seq
    · apply run_asg (d := .int (own ns spot))
      refine ev_ifP (by walk_at "et") (fun hb => ?_) (fun hb => ?_)
      · refine ev_ixS (ev_var rfl) (ev_var rfl) ?_
        have hb : spot < ns.length := by simpa using hb
        have hi : spot.toNat < ns.length := by omega
        unfold own atI ixN
        rw [if_pos h, if_pos hb, if_pos hb]
        show ns[spot.toNat]? = _
        rw [List.getD_eq_getElem?_getD, List.getElem?_eq_getElem hi]
        rfl
      · have hb : ¬ spot < ns.length := by simpa using hb
        refine Ev.to (by walk_at "ev") ?_
        unfold own
        rw [if_neg hb]
    walk_at "d"
    walk_at "s"
    apply run_seq
    · have hw : ∀ s, s = (⟨[.dat (scrD ns), .dat (.int spot), .dat (.int (own ns spot)), .dat (.int (910003 + 7907 * spot)), .unk], g⟩ : S) → IterD K (iSeq K (tOp (rD2 K addOk addD) (tSl (rSlU K) (tVar 0) tNoPart (tPart (tC (.int 6)))) (tLst (tCons (tVar 2) tNil)))) s ((cells ns spot).map PyData.int) s := by
        intro s hs
        subst hs
        refine it_seq (d := .list ((cells ns spot).map PyData.int)) ?_ rfl
        refine Ev.to (ev_addL (ev_slS (ev_var rfl) ep_none (ep_some ev_int)) (ev_lst (ea_cons (ev_var rfl) ea_nil) (by walk_at "side")) ?_) ?_
        · rw [cut_to (by decide), List.length_take, List.length_map]
          have : (6 : Int).toNat = 6 := rfl
          rw [this, List.length_singleton, sizeLine_eq]
          omega
        · rw [cut_to (by decide), ← List.map_take]
          simp [cells]
      refine run_for (fun i => ⟨[.dat (scrD ns), .dat (.int spot), .dat (.int (own ns spot)), .dat (.int (((cells ns spot).take i).foldl mix (910003 + 7907 * spot))), .unk], g⟩) (hw _ rfl) (SLe.refl _) fun i d hd => ?_
      obtain ⟨c, hc, rfl⟩ := map_at hd
      refine ⟨_, tg_name, ?_⟩
      walk_at "d"
      rw [fold_at hc]
      walk_at "le"
    rw [List.length_map, List.take_length]
    apply run_retO
    apply eo_lst
    · refine ea_cons (d := .int (dice0 ns spot).a) (?_ : Ev K _ ⟨[.dat (scrD ns), .dat (.int spot), .dat (.int (own ns spot)), .dat (.int (mixed ns spot)), .unk], g⟩ _ ⟨[.dat (scrD ns), .dat (.int spot), .dat (.int (own ns spot)), .dat (.int (mixed ns spot)), .unk], g⟩) (by walk_at "ea")
      by_cases h1 : own ns spot < 0
      · refine Ev.to (ev_ifT (by walk_at "tb") (by walk_at "ev")) ?_
        unfold dice0; simp [h1]
      · by_cases h2 : 10 ^ 16 ≤ own ns spot
        · refine Ev.to (ev_ifT (EvT.to (by walk_at "et") ?_) (by walk_at "ev")) ?_
          · simp [h1]; exact h2
          · unfold dice0; simp only [h1, h2, if_true, if_false, or_true, or_false]
        · refine Ev.to (ev_ifF (EvT.to (by walk_at "et") ?_) (by walk_at "ev")) ?_
          · simp [h1]; omega
          · unfold dice0; simp only [h1, h2, if_true, if_false, or_true, or_false]
    · show 3 ≤ sizeLine; decide
  · rfl
end CM

namespace CM
open PySem PySem.Spec PyProof.Rows L2 DL
variable {K : PySem.W.Frag} {C : Str → Addr} {T : List (Addr × Str)} {E : XK}
def atMost : D → Int → Bool
  | .tuple ds, n => decide ((ds.length : Int) ≤ n)
  | _, _ => false
def isTupN : D → Int → Bool
  | .tuple ds, n => decide ((ds.length : Int) = n)
  | _, _ => false
def ascS (ns : List Int) : Bool := (ns.zip (ns.drop 1)).all fun p => decide (p.1 < p.2)
inductive R_is_tuple_of (K : PySem.W.Frag) (C : Str → Addr) (T : List (Addr × Str)) : FR
  | mk {v n g} (h : noScr v = true) : R_is_tuple_of K C T ⟨[.dat v, .dat (.int n)], g⟩ (.rt (.bool (isTupN v n)) ⟨[.dat v, .dat (.int n)], g⟩)
inductive R_are_at_most (K : PySem.W.Frag) (C : Str → Addr) (T : List (Addr × Str)) : FR
  | mk {v n g} (h : noScr v = true) : R_are_at_most K C T ⟨[.dat v, .dat (.int n)], g⟩ (.rt (.bool (atMost v n)) ⟨[.dat v, .dat (.int n)], g⟩)
inductive R_is_ascending (K : PySem.W.Frag) (C : Str → Addr) (T : List (Addr × Str)) : FR
  | mk {ns : List Int} {g} (h : ns.length ≤ 1000) : R_is_ascending K C T ⟨[.dat (.tuple (ns.map PyData.int))], g⟩ (.rt (.bool (ascS ns)) ⟨[.dat (.tuple (ns.map PyData.int))], g⟩)
inductive R_choices_of (K : PySem.W.Frag) (C : Str → Addr) (T : List (Addr × Str)) : FR
  | mk {n : Nat} {m : Int} {g} (h : n ≤ 12) (h1 : 0 ≤ m) : R_choices_of K C T ⟨[.dat (.int n), .dat (.int m)], g⟩ (.rt (.list ((chs n m n).map rowD)) ⟨[.dat (.int n), .dat (.int m)], g⟩)
def t_is_tuple_of (K : PySem.W.Frag) (C : Str → Addr) (T : List (Addr × Str)) (E : XK) : TS :=
  (tRet (tAndV (tCB (rIsi K) (tCons (tVar 0) (tCons (tC (.ty "tuple")) tNil))) (tOp (rD2 K eqOk eqD) (tCB (rDn K lenOk lenD) (tCons (tVar 0) tNil)) (tVar 1))))
def t_are_at_most (K : PySem.W.Frag) (C : Str → Addr) (T : List (Addr × Str)) (E : XK) : TS :=
  (tRet (tAndV (tCB (rIsi K) (tCons (tVar 0) (tCons (tC (.ty "tuple")) tNil))) (tOp (rD2 K ordOk leD) (tCB (rDn K lenOk lenD) (tCons (tVar 0) tNil)) (tVar 1))))
def t_is_ascending (K : PySem.W.Frag) (C : Str → Addr) (T : List (Addr × Str)) (E : XK) : TS :=
  (tRet (tCB (rDn K allOk allD) (tCons (tLc (iZipU K (tCons (tVar 0) (tCons (tSl (rSlU K) (tVar 0) (tPart (tC (.int 1))) tNoPart) tNil))) (gTup K 2 (gCons (gName 1) (gCons (gName 2) gNil))) tYes (tOp (rD2 K ltXOk ltXD) (tVar 1) (tVar 2)) [1, 2]) tNil)))
def t_choices_of (K : PySem.W.Frag) (C : Str → Addr) (T : List (Addr × Str)) (E : XK) : TS :=
  (tSeq (tAsg (tLst (tCons (tTup tNil) tNil)) (gName 2))
    (tSeq (tFor (RT.iRevA K (tLstRg (tRg1 (tVar 0)))) (gName 3) (tSeq (tAsg (tLc (iSeq K (tVar 2)) (gName 5) (tTest (tOp (rD2 K ltXOk ltXD) (tCB (rDn K lenOk lenD) (tCons (tVar 5) tNil)) (tVar 1))) (tTup (tCons (tVar 3) (StX.tStar K (tVar 5) tNil))) [5]) (gName 4))
    (tAsg (tOp (rD2 K addOk addD) (tSl (rSlU K) (tVar 2) tNoPart (tPart (tC (.int 1)))) (tCB (rDl K sortOkT sortLT) (tCons (tOp (rD2 K addOk addD) (tVar 4) (tSl (rSlU K) (tVar 2) (tPart (tC (.int 1))) tNoPart)) tNil))) (gName 2))))
    (tRet (tVar 2))))
theorem rd_are_at_most {v : D} {n : Int} {g} (hn : noScr v = true) : Run K E (t_are_at_most K C T E) ⟨[.dat v, .dat (.int n)], g⟩ (.rt (.bool (atMost v n)) ⟨[.dat v, .dat (.int n)], g⟩) := by
  refine run_ret ?_
  have no : ∀ x, noScr x = true → isiD "tuple" x = false → Ev K (tAndV (tCB (rIsi K) (tCons (tVar 0) (tCons (tC (.ty "tuple")) tNil))) (tOp (rD2 K ordOk leD) (tCB (rDn K lenOk lenD) (tCons (tVar 0) tNil)) (tVar 1))) ⟨[.dat x, .dat (.int n)], g⟩ (.bool false) ⟨[.dat x, .dat (.int n)], g⟩ := fun x h1 h2 => by
    refine ev_andF (ev_isi (ev_var rfl) kit_tuple h1 _ ?_)
    cases x <;> first | rfl | cases h2
  cases v with
  | tuple ds => exact Ev.to (ev_and (a := true) (ev_isi (ev_var rfl) kit_tuple hn _ rfl) fun _ => ev_leI (ev_lenT (ea_cons (ev_var rfl) ea_nil)) (ev_var rfl)) rfl
  | _ => exact no _ hn rfl
theorem rd_is_tuple_of {v : D} {n : Int} {g} (hn : noScr v = true) : Run K E (t_is_tuple_of K C T E) ⟨[.dat v, .dat (.int n)], g⟩ (.rt (.bool (isTupN v n)) ⟨[.dat v, .dat (.int n)], g⟩) := by
  refine run_ret ?_
  have no : ∀ x, noScr x = true → isiD "tuple" x = false → Ev K (tAndV (tCB (rIsi K) (tCons (tVar 0) (tCons (tC (.ty "tuple")) tNil))) (tOp (rD2 K eqOk eqD) (tCB (rDn K lenOk lenD) (tCons (tVar 0) tNil)) (tVar 1))) ⟨[.dat x, .dat (.int n)], g⟩ (.bool false) ⟨[.dat x, .dat (.int n)], g⟩ := fun x h1 h2 => by
    refine ev_andF (ev_isi (ev_var rfl) kit_tuple h1 _ ?_)
    cases x <;> first | rfl | cases h2
  cases v with
  | tuple ds => exact Ev.to (ev_and (a := true) (ev_isi (ev_var rfl) kit_tuple hn _ rfl) fun _ => ev_eqI (ev_lenT (ea_cons (ev_var rfl) ea_nil)) (ev_var rfl)) rfl
  | _ => exact no _ hn rfl
theorem asc_zip (ns : List Int) : zipD (ns.map PyData.int) (cutL (ns.map PyData.int) (some 1) none) = (ns.zip (ns.drop 1)).map fun p => PyData.tuple [.int p.1, .int p.2] := by
  rw [cut_from (by decide)]
  show zipD (ns.map PyData.int) ((ns.map PyData.int).drop 1) = _
  unfold zipD
  rw [← List.map_drop, List.zip_map, List.map_map]
  rfl
def unP : D → Int × Int
  | .tuple [.int a, .int b] => (a, b)
  | _ => (0, 0)
theorem rd_is_ascending {ns : List Int} {g} (h : ns.length ≤ 1000) : Run K E (t_is_ascending K C T E) ⟨[.dat (.tuple (ns.map PyData.int)), .unk, .unk], g⟩ (.rt (.bool (ascS ns)) ⟨[.dat (.tuple (ns.map PyData.int)), .unk, .unk], g⟩) := by
  refine run_ret ?_
  have hw : IterD K (iZipU K (tCons (tVar 0) (tCons (tSl (rSlU K) (tVar 0) (tPart (tC (V.int 1))) tNoPart) tNil))) ⟨[.dat (.tuple (ns.map PyData.int)), .unk, .unk], g⟩ (zipD (ns.map PyData.int) (cutL (ns.map PyData.int) (some 1) none)) ⟨[.dat (.tuple (ns.map PyData.int)), .unk, .unk], g⟩ :=
    it_zip (ea_cons (ev_var rfl) (ea_cons (ev_slT (ev_var rfl) (ep_some ev_int) ep_none) ea_nil)) rfl rfl
  rw [asc_zip] at hw
  refine ev_allE (fun p : Int × Int => PyData.tuple [.int p.1, .int p.2]) unP (fun _ => rfl) (fun p => decide (p.1 < p.2)) hw (le_size (by rw [List.length_zip]; omega)) (by walk_at "nr") fun p hp => ?_
  refine ⟨_, by walk_at "tv", ?_, ?_⟩
  · walk_at "w"
    exact Fo.le (by walk_at "fo")
  · walk_at "w"
    exact ev_ltI (ev_var rfl) (ev_var rfl)
/-! ### all ascending tuples -/
theorem chs_len (n : Nat) (m : Int) : ∀ k, (chs n m k).length ≤ 2 ^ k
  | 0 => by show 1 ≤ 1; omega
  | k + 1 => by
    have ih := chs_len n m k
    obtain ⟨t, ht⟩ := chs_head n m k
    have e : (chs n m (k + 1)).length = 1 + ((shorter m (chs n m k)).length + (chs n m k).tail.length) := by
      rw [chs, List.length_cons, (sortR_perm _).length_eq, List.length_append, List.length_map]
      omega
    have h1 : (shorter m (chs n m k)).length ≤ (chs n m k).length := List.length_filter_le _ _
    have h2 : (chs n m k).tail.length + 1 = (chs n m k).length := by rw [ht]; rfl
    rw [e, Nat.pow_succ]
    omega
theorem chs_len12 {n : Nat} {m : Int} {k : Nat} (h : k ≤ 12) : (chs n m k).length ≤ 4096 := Nat.le_trans (chs_len n m k) (Nat.pow_le_pow_right (by decide) h)
theorem asc_len : ∀ {r : List Int} {lo hi : Int}, lo ≤ hi → r.Pairwise (· < ·) → (∀ x ∈ r, lo ≤ x ∧ x < hi) → (r.length : Int) ≤ hi - lo
  | [], lo, hi, h, _, _ => by simp only [List.length_nil]; omega
  | x :: r, lo, hi, h, h1, h2 => by
    have h1' := List.pairwise_cons.mp h1
    have hx := h2 x (.head _)
    have := asc_len (r := r) (lo := x + 1) (hi := hi) (by omega) h1'.2 fun y hy => by have := h1'.1 y hy; have := h2 y (.tail _ hy); omega
    simp only [List.length_cons]
    omega
theorem cut1 {α : Type} (x : α) (l : List α) : cutL (x :: l) none (some 1) = [x] := by
  rw [cut_to (by decide)]; rfl
theorem cut1' {α : Type} (x : α) (l : List α) : cutL (x :: l) (some 1) none = l := by
  rw [cut_from (by decide)]; rfl
theorem rd_choices_of {n : Nat} {m : Int} {g} (h : n ≤ 12) (h1 : 0 ≤ m) : Run K E (t_choices_of K C T E) ⟨[.dat (.int n), .dat (.int m), .unk, .unk, .unk, .unk], g⟩ (.rt (.list ((chs n m n).map rowD)) ⟨[.dat (.int n), .dat (.int m), .unk, .unk, .unk, .unk], g⟩) := by
  walk_at "s"
  have hit : IterD K (RT.iRevA K (tLstRg (tRg1 (tVar 0)))) ⟨[.dat (.int n), .dat (.int m), .dat (.list [.tuple []]), .unk, .unk, .unk], g⟩ (upTo 0 n).reverse ⟨[.dat (.int n), .dat (.int m), .dat (.list [.tuple []]), .unk, .unk, .unk], g⟩ := by
    have := it_revA (K := K) (ev_lstRg1 (s := ⟨[.dat (.int n), .dat (.int m), .dat (.list [.tuple []]), .unk, .unk, .unk], g⟩) (n := (n : Int)) (ev_var (i := 0) rfl) (by unfold RgOk; omega))
    rw [Int.toNat_natCast] at this
    exact this
  refine run_seq (run_for (fun i => ⟨[.dat (.int n), .dat (.int m), .dat (.list ((chs n m i).map rowD)), .unk, .unk, .unk], g⟩) hit (SLe.refl _) fun i d hd => ?_) ?_
  · have hi : i < n := by
      have := (List.getElem?_eq_some_iff.mp hd).1
      rw [List.length_reverse, upTo_len] at this
      exact this
    have hd2 : d = .int ((n : Int) - i - 1) := by
      rw [List.getElem?_reverse (by rw [upTo_len]; exact hi), upTo_len] at hd
      obtain ⟨_, e⟩ := upTo_get hd
      rw [e]
      congr 1
      omega
    subst hd2
    obtain ⟨t, ht⟩ := chs_head n m i
    have hlen := chs_len12 (n := n) (m := m) (k := i) (by omega)
    have hsp := chs_spec n m h1 i (by omega)
    refine ⟨_, by walk_at "tg", ?_⟩
    walk_at "d"
    have hmore : Ev K (tLc (iSeq K (tVar 2)) (gName 5) (tTest (tOp (rD2 K ltXOk ltXD) (tCB (rDn K lenOk lenD) (tCons (tVar 5) tNil)) (tVar 1))) (tTup (tCons (tVar 3) (StX.tStar K (tVar 5) tNil))) [5]) ⟨[.dat (.int n), .dat (.int m), .dat (.list ((chs n m i).map rowD)), .dat (.int ((n : Int) - i - 1)), .unk, .unk], g⟩
        (.list (((shorter m (chs n m i)).map (fun r => ((n : Int) - i - 1) :: r)).map rowD)) ⟨[.dat (.int n), .dat (.int m), .dat (.list ((chs n m i).map rowD)), .dat (.int ((n : Int) - i - 1)), .unk, .unk], g⟩ := by
      refine (ev_lcE rowD unrow unrow_rowD (fun r => decide ((r.length : Int) < m)) (fun r => rowD (((n : Int) - i - 1) :: r)) (it_seq (ev_var rfl) rfl) (le_size (by omega)) (by walk_at "nr") fun r hr => ?_).to (by rw [List.map_map]; rfl)
      refine ⟨_, by walk_at "tv", ?_, ?_, fun hq => ?_⟩
      · walk_at "w"
        exact Fo.le (by walk_at "fo")
      · walk_at "w"
        exact et_test (ev_ltI (ev_lenTI (ev_var rfl)) (ev_var rfl))
      · walk_at "w"
        have hq := of_decide_eq_true hq
        have hb := ((hsp.1 r).mp hr).2.2
        refine Ev.to (ev_tup (ea_cons (ev_var rfl) (ea_starT (ev_var rfl) ea_nil)) ?_) ?_
        · refine le_size ?_
          have hi' := (hsp.1 r).mp hr
          have := asc_len (by omega) hi'.1 hi'.2.1
          simp only [List.length_cons, List.length_append, List.length_map, List.length_nil]
          omega
        · show PyData.tuple (PyData.int _ :: (r.map PyData.int ++ [])) = _
          rw [List.append_nil]; rfl
    refine run_seq (run_asg hmore) ?_
    walk_at "d"
    have hn : ∀ ns ∈ (shorter m (chs n m i)).map (fun r => ((n : Int) - i - 1) :: r) ++ t, ns ≠ [] := fun r hr e => by
      subst e
      rcases List.mem_append.mp hr with hr | hr
      · obtain ⟨r', _, e⟩ := List.mem_map.mp hr; cases e
      · have hs := hsp.2
        rw [ht] at hs
        have := (List.pairwise_cons.mp hs).1 _ hr
        rw [lex_irr] at this
        cases this
    have hl1 : (shorter m (chs n m i)).length ≤ (chs n m i).length := List.length_filter_le _ _
    have hl2 : (chs n m i).length = t.length + 1 := by rw [ht]; rfl
    have hsum : Ev K (tOp (rD2 K addOk addD) (tVar 4) (tSl (rSlU K) (tVar 2) (tPart (tC (V.int 1))) tNoPart)) ⟨[.dat (.int n), .dat (.int m), .dat (.list ((chs n m i).map rowD)), .dat (.int ((n : Int) - i - 1)), .dat (.list (((shorter m (chs n m i)).map (fun r => ((n : Int) - i - 1) :: r)).map rowD)), .unk], g⟩
        (.list (((shorter m (chs n m i)).map (fun r => ((n : Int) - i - 1) :: r) ++ t).map rowD)) ⟨[.dat (.int n), .dat (.int m), .dat (.list ((chs n m i).map rowD)), .dat (.int ((n : Int) - i - 1)), .dat (.list (((shorter m (chs n m i)).map (fun r => ((n : Int) - i - 1) :: r)).map rowD)), .unk], g⟩ := by
      refine Ev.to (ev_addL (ev_var rfl) (ev_slL (ev_var rfl) (ep_some (ev_int (i := 1))) ep_none) ?_) ?_
      · rw [ht, List.map_cons, cut1', List.length_map, List.length_map, List.length_map, ← ht]
        exact le_size (by omega)
      · rw [ht, List.map_cons, cut1', List.map_append, ← ht]
    apply run_le
    · apply run_asg
      refine Ev.to (ev_addL (ev_slL (ev_var rfl) ep_none (ep_some (ev_int (i := 1)))) (ev_sortRL hsum (.inl hn)) ?_) (y := .list ((chs n m (i + 1)).map rowD)) ?_
      · rw [ht, List.map_cons, cut1, List.length_map, (sortR_perm _).length_eq, List.length_append, List.length_map, ← ht]
        exact le_size (by simp only [List.length_singleton]; omega)
      · rw [chs, ht, List.map_cons, cut1]
        rfl
    · walk_at "d"
      exact Fo.le (by walk_at "fo")
  · walk_at "d"
    rw [List.length_reverse, upTo_len]
    walk_at "ret"
end CM

namespace CM
open PySem PySem.Spec PyProof.Rows L2 DL
variable {K : PySem.W.Frag} {C : Str → Addr} {T : List (Addr × Str)} {E : XK}
def seenOk (ns : List Int) : Bool := decide ((ns.length : Int) ≤ 10) && (ns.all (fun x => isIn (.int x) 0 11) && ascS ns)
abbrev CD := (List Int ⊕ Int) × (Bool ⊕ Int)
def xD : List Int ⊕ Int → D
  | .inl ns => rowD ns
  | .inr n => .int n
def yD : Bool ⊕ Int → D
  | .inl b => .bool b
  | .inr n => .int n
def clD (c : CD) : D := .tuple [xD c.1, yD c.2]
def unX : D → List Int ⊕ Int
  | .tuple ds => .inl (unrow (.tuple ds))
  | .int n => .inr n
  | _ => .inr 0
def unY : D → Bool ⊕ Int
  | .bool b => .inl b
  | .int n => .inr n
  | _ => .inr 0
def unCl : D → CD
  | .tuple [x, y] => (unX x, unY y)
  | _ => (.inr 0, .inr 0)
theorem unX_xD (x : List Int ⊕ Int) : unX (xD x) = x := by
  cases x with
  | inl ns => show Sum.inl (unrow (rowD ns)) = _; rw [unrow_rowD]
  | inr n => rfl
theorem unY_yD (y : Bool ⊕ Int) : unY (yD y) = y := by cases y <;> rfl
theorem unCl_clD (c : CD) : unCl (clD c) = c := by
  show (unX (xD c.1), unY (yD c.2)) = c
  rw [unX_xD, unY_yD]
def okX : List Int ⊕ Int → Bool
  | .inl ns => seenOk ns
  | .inr _ => false
def okY : Bool ⊕ Int → Bool
  | .inl _ => true
  | .inr _ => false
def okC (c : CD) : Bool := okX c.1 && okY c.2
/-- a value, and whether it is callers -/
inductive CalV : D → Bool → Prop
  | mk (cs : List CD) (h : cs.length ≤ 1000) (h1 : ∀ c ∈ cs, ∀ ns, c.1 = .inl ns → ns.length ≤ 1000) : CalV (.tuple (cs.map clD)) (decide ((cs.length : Int) ≤ 20) && cs.all okC)
  | no (v : D) (hn : noScr v = true) (h : atMost v 20 = false) : CalV v false
  | odd : CalV (.tuple [.tuple [.tuple [.int 0]]]) false
theorem CalV.noScr {v : D} {b : Bool} (h : CalV v b) : noScr v = true := by cases h <;> first | rfl | assumption
def cD (c : Clr) : D := .tuple [rowD c.1, .bool c.2]
def unC : D → Clr
  | .tuple [x, .bool b] => (unrow x, b)
  | _ => ([], false)
theorem unC_cD (c : Clr) : unC (cD c) = c := by
  show (unrow (rowD c.1), c.2) = c
  rw [unrow_rowD]
def CsOk (cs : List Clr) : Prop := cs.length ≤ 20 ∧ ∀ c ∈ cs, seenOk c.1 = true
theorem seen_len {ns : List Int} (h : seenOk ns = true) : ns.length ≤ 10 := by
  unfold seenOk at h
  simp only [Bool.and_eq_true, decide_eq_true_eq] at h
  omega
theorem CsOk.cal {cs : List Clr} (h : CsOk cs) : CalV (.tuple (cs.map cD)) true := by
  have := CalV.mk (cs.map fun c => ((Sum.inl c.1, Sum.inl c.2) : CD)) (by rw [List.length_map]; have := h.1; omega) (fun c hc ns e => by
    obtain ⟨c', hc', rfl⟩ := List.mem_map.mp hc
    cases e
    have := seen_len (h.2 c' hc')
    omega)
  rw [List.map_map, List.length_map] at this
  have e : (decide ((cs.length : Int) ≤ 20) && (cs.map fun c => ((Sum.inl c.1, Sum.inl c.2) : CD)).all okC) = true := by
    rw [Bool.and_eq_true, decide_eq_true_eq, List.all_map, List.all_eq_true]
    refine ⟨by have := h.1; omega, fun c hc => ?_⟩
    show (seenOk c.1 && true) = true
    rw [h.2 c hc]; rfl
  rw [e] at this
  exact this
inductive R_are_seen (K : PySem.W.Frag) (C : Str → Addr) (T : List (Addr × Str)) : FR
  | mk {x g} (h : ∀ ns, x = .inl ns → ns.length ≤ 1000) : R_are_seen K C T ⟨[.dat (xD x)], g⟩ (.rt (.bool (okX x)) ⟨[.dat (xD x)], g⟩)
inductive R_are_callers (K : PySem.W.Frag) (C : Str → Addr) (T : List (Addr × Str)) : FR
  | mk {v b g} (h : CalV v b) : R_are_callers K C T ⟨[.dat v], g⟩ (.rt (.bool b) ⟨[.dat v], g⟩)
inductive R_explains (K : PySem.W.Frag) (C : Str → Addr) (T : List (Addr × Str)) : FR
  | mk {cs : List Clr} {r : List Int} {g} (h : cs.length ≤ 20) (h1 : r.length ≤ 12) : R_explains K C T ⟨[.dat (.tuple (cs.map cD)), .dat (rowD r)], g⟩ (.rt (.bool (exPl cs r)) ⟨[.dat (.tuple (cs.map cD)), .dat (rowD r)], g⟩)
inductive R_blamed_of (K : PySem.W.Frag) (C : Str → Addr) (T : List (Addr × Str)) : FR
  | mk {cs : List Clr} {m : Int} {g} (h : CsOk cs) (h1 : 0 ≤ m) : R_blamed_of K C T ⟨[.dat (.tuple (cs.map cD)), .dat (.int m)], g⟩ (.rt (.list ((blOf cs m).map rowD)) ⟨[.dat (.tuple (cs.map cD)), .dat (.int m)], g⟩)
def t_are_seen (K : PySem.W.Frag) (C : Str → Addr) (T : List (Addr × Str)) (E : XK) : TS :=
  (tSeq (tIfS (tOr (tNot (tB (tCall (spF K (R_are_at_most K C T)) [] E (tCons (tVar 0) (tCons (tC (.int 10)) tNil))))) (tNot (tB (tCB (rDn K allOk allD) (tCons (tLc (iSeq K (tVar 0)) (gName 1) tYes (tCall (spF K (R_is_in K C T)) [] E0 (tCons (tVar 1) (tCons (tC (.int 0)) (tCons (tC (.int 11)) tNil)))) [1]) tNil))))) (tRet (tC (.bl false))) tNext)
    (tRet (tCall (spF K (R_is_ascending K C T)) [] E (tCons (tVar 0) tNil))))
def t_are_callers (K : PySem.W.Frag) (C : Str → Addr) (T : List (Addr × Str)) (E : XK) : TS :=
  (tSeq (tIfS (tOr (tNot (tB (tCall (spF K (R_are_at_most K C T)) [] E (tCons (tVar 0) (tCons (tC (.int 20)) tNil))))) (tNot (tB (tCB (rDn K allOk allD) (tCons (tLc (iSeq K (tVar 0)) (gName 1) tYes (tCall (spF K (R_is_tuple_of K C T)) [] E0 (tCons (tVar 1) (tCons (tC (.int 2)) tNil))) [1]) tNil))))) (tRet (tC (.bl false))) tNext)
    (tRet (tCB (rDn K allOk allD) (tCons (tLc (iSeq K (tVar 0)) (gName 1) tYes (tAndV (tCall (spF K (R_are_seen K C T)) [] E0 (tCons (tOp (rD2 K ixOk ixD) (tVar 1) (tC (.int 0))) tNil)) (tCB (rIsi K) (tCons (tOp (rD2 K ixOk ixD) (tVar 1) (tC (.int 1))) (tCons (tC (.ty "bool")) tNil)))) [1]) tNil))))
def t_explains (K : PySem.W.Frag) (C : Str → Addr) (T : List (Addr × Str)) (E : XK) : TS :=
  (tRet (tCB (rDn K allOk allD) (tCons (tLc (iSeq K (tVar 0)) (gTup K 2 (gCons (gName 2) (gCons (gName 3) gNil))) tYes (tOp (rD2 K eqOk eqD) (tCB (rDn K allOk anyD) (tCons (tLc (iSeq K (tVar 1)) (gName 4) tYes (tOp (rD2 K inOk inD) (tVar 4) (tVar 2)) [4]) tNil)) (tVar 3)) [2, 3]) tNil)))
def t_blamed_of (K : PySem.W.Frag) (C : Str → Addr) (T : List (Addr × Str)) (E : XK) : TS :=
  (tSeq (tAsg (tLc2 (iSeq K (tVar 0)) (gTup K 2 (gCons (gName 5) (gCons (gName 6) gNil))) tYes (iSeq K (tVar 5)) (gName 7) (tNot (tB (tVar 6))) (tVar 7) [5, 6, 7] [7]) (gName 2))
    (tSeq (tAsg (tLc (iRng1 (tCons (tOp (rD2 K addOk addD) (tC (.int 11)) (tC (.int 1))) tNil)) (gName 7) (tTest (tOp (rD2 K inOk ninD) (tVar 7) (tVar 2))) (tVar 7) [7]) (gName 3))
    (tSeq (tAsg (tLc (iSeq K (tCall (spF K (R_choices_of K C T)) [] E (tCons (tCB (rDn K lenOk lenD) (tCons (tVar 3) tNil)) (tCons (tVar 1) tNil)))) (gName 8) tYes (tCB (rDn K seqOk tupD) (tCons (tLc (iSeq K (tVar 8)) (gName 9) tYes (tOp (rD2 K ixOk ixD) (tVar 3) (tVar 9)) [9]) tNil)) [8]) (gName 4))
    (tRet (tLc (iSeq K (tVar 4)) (gName 8) (tB (tCall (spF K (R_explains K C T)) [] E0 (tCons (tVar 0) (tCons (tVar 8) tNil)))) (tVar 8) [8])))))
theorem rd_are_seen {x : List Int ⊕ Int} {g} (h : ∀ ns, x = .inl ns → ns.length ≤ 1000) : Run K E (t_are_seen K C T E) ⟨[.dat (xD x), .unk], g⟩ (.rt (.bool (okX x)) ⟨[.dat (xD x), .unk], g⟩) := by
  have out : ∀ x, noScr x = true → atMost x 10 = false → Run K E (t_are_seen K C T E) ⟨[.dat x, .unk], g⟩ (.rt (.bool false) ⟨[.dat x, .unk], g⟩) := fun x h2 h3 => by
    apply run_end
    · apply run_yes
      · apply et_orT
        refine EvT.to (et_not (et_B (ev_call (ea_cons (ev_var rfl) (ea_cons ev_int ea_nil)) (.mk h2)))) ?_
        rw [h3]; rfl
      · exact run_ret ev_bl
    · rfl
  cases x with
  | inr n => exact out _ rfl rfl
  | inl ns =>
    have hl := h ns rfl
    show Run K E (t_are_seen K C T E) ⟨[.dat (.tuple (ns.map PyData.int)), .unk], g⟩ (.rt (.bool (seenOk ns)) ⟨[.dat (.tuple (ns.map PyData.int)), .unk], g⟩)
    by_cases h10 : (ns.length : Int) ≤ 10
    · have ham : atMost (.tuple (ns.map PyData.int)) 10 = true := by show decide _ = true; rw [List.length_map]; exact decide_eq_true h10
      have hall : EvT K (tB (tCB (rDn K allOk allD) (tCons (tLc (iSeq K (tVar 0)) (gName 1) tYes (tCall (spF K (R_is_in K C T)) [] E0 (tCons (tVar 1) (tCons (tC (.int 0)) (tCons (tC (.int 11)) tNil)))) [1]) tNil))) ⟨[.dat (.tuple (ns.map PyData.int)), .unk], g⟩ (ns.all fun x => isIn (.int x) 0 11) ⟨[.dat (.tuple (ns.map PyData.int)), .unk], g⟩ := by
        refine et_B (ev_allE PyData.int unI unI_int (fun x => isIn (.int x) 0 11) (it_seq (ev_var rfl) rfl) (le_size (by omega)) (by walk_at "nr") fun x hx => ⟨_, by walk_at "tv", ?_, ?_⟩)
        · walk_at "w"
          exact Fo.le (by walk_at "fo")
        · walk_at "w"
          exact ev_call (ea_cons (ev_var rfl) (ea_cons ev_int (ea_cons ev_int ea_nil))) (.mk rfl)
      have hor : EvT K (tOr (tNot (tB (tCall (spF K (R_are_at_most K C T)) [] E (tCons (tVar 0) (tCons (tC (.int 10)) tNil))))) (tNot (tB (tCB (rDn K allOk allD) (tCons (tLc (iSeq K (tVar 0)) (gName 1) tYes (tCall (spF K (R_is_in K C T)) [] E0 (tCons (tVar 1) (tCons (tC (.int 0)) (tCons (tC (.int 11)) tNil)))) [1]) tNil))))) ⟨[.dat (.tuple (ns.map PyData.int)), .unk], g⟩ (!ns.all fun x => isIn (.int x) 0 11) ⟨[.dat (.tuple (ns.map PyData.int)), .unk], g⟩ := by
        refine EvT.to (et_or (a := false) (EvT.to (et_not (et_B (ev_call (ea_cons (ev_var rfl) (ea_cons ev_int ea_nil)) (.mk rfl)))) (by rw [ham]; rfl)) fun _ => et_not hall) ?_
        simp
      have e1 : seenOk ns = ((ns.all fun x => isIn (.int x) 0 11) && ascS ns) := by unfold seenOk; rw [decide_eq_true h10]; rfl
      rw [e1]
      cases ht : (ns.all fun x => isIn (.int x) 0 11) with
      | false =>
        rw [ht] at hor
        apply run_end
        · exact run_yes hor (run_ret ev_bl)
        · rfl
      | true =>
        rw [ht] at hor
        exact run_seq (run_no hor run_next) (run_ret (ev_call (ea_cons (ev_var rfl) ea_nil) (.mk hl)))
    · have e1 : seenOk ns = false := by unfold seenOk; rw [decide_eq_false h10]; rfl
      rw [e1]
      exact out _ rfl (by show decide _ = false; rw [List.length_map]; exact decide_eq_false h10)
theorem rd_are_callers {v : D} {b : Bool} {g} (h : CalV v b) : Run K E (t_are_callers K C T E) ⟨[.dat v, .unk], g⟩ (.rt (.bool b) ⟨[.dat v, .unk], g⟩) := by
  have out : ∀ x, noScr x = true → atMost x 20 = false → Run K E (t_are_callers K C T E) ⟨[.dat x, .unk], g⟩ (.rt (.bool false) ⟨[.dat x, .unk], g⟩) := fun x h2 h3 => by
    apply run_end
    · apply run_yes
      · apply et_orT
        refine EvT.to (et_not (et_B (ev_call (ea_cons (ev_var rfl) (ea_cons ev_int ea_nil)) (.mk h2)))) ?_
        rw [h3]; rfl
      · exact run_ret ev_bl
    · rfl
  have pairs : ∀ (ds : List D), ds.length ≤ 20 → EvT K (tB (tCB (rDn K allOk allD) (tCons (tLc (iSeq K (tVar 0)) (gName 1) tYes (tCall (spF K (R_is_tuple_of K C T)) [] E0 (tCons (tVar 1) (tCons (tC (.int 2)) tNil))) [1]) tNil))) ⟨[.dat (.tuple ds), .unk], g⟩ (ds.all fun d => isTupN d 2) ⟨[.dat (.tuple ds), .unk], g⟩ → ∀ x, x = (!ds.all fun d => isTupN d 2) →
      EvT K (tOr (tNot (tB (tCall (spF K (R_are_at_most K C T)) [] E (tCons (tVar 0) (tCons (tC (.int 20)) tNil))))) (tNot (tB (tCB (rDn K allOk allD) (tCons (tLc (iSeq K (tVar 0)) (gName 1) tYes (tCall (spF K (R_is_tuple_of K C T)) [] E0 (tCons (tVar 1) (tCons (tC (.int 2)) tNil))) [1]) tNil))))) ⟨[.dat (.tuple ds), .unk], g⟩ x ⟨[.dat (.tuple ds), .unk], g⟩ := fun ds hl hall x hx => by
    have ham : atMost (.tuple ds) 20 = true := decide_eq_true (by omega)
    refine EvT.to (et_or (a := false) (EvT.to (et_not (et_B (ev_call (ea_cons (ev_var rfl) (ea_cons ev_int ea_nil)) (.mk rfl)))) (by rw [ham]; rfl)) fun _ => et_not hall) ?_
    rw [hx]; simp
  cases h with
  | no _ hn h => exact out _ hn h
  | odd =>
    apply run_end
    · apply run_yes
      · refine pairs _ (by decide) ?_ true rfl
        refine et_B (Ev.to (ev_allE (as := [()]) (fun _ => PyData.tuple [.tuple [.int 0]]) (fun _ => ()) (fun _ => rfl) (fun _ => false) (it_seq (ev_var rfl) rfl) (le_size (by decide)) (by walk_at "nr") fun x hx => ⟨_, by walk_at "tv", ?_, ?_⟩) rfl)
        · walk_at "w"
          exact Fo.le (by walk_at "fo")
        · walk_at "w"
          exact ev_call (ea_cons (ev_var rfl) (ea_cons ev_int ea_nil)) (.mk rfl)
      · exact run_ret ev_bl
    · rfl
  | mk cs hl h1 =>
    by_cases h20 : (cs.length : Int) ≤ 20
    · rw [decide_eq_true h20, Bool.true_and]
      refine run_seq (run_no (pairs _ (by rw [List.length_map]; omega) ?_ false ?_) run_next) (run_ret ?_)
      · refine et_B (Ev.to (ev_allE clD unCl unCl_clD (fun _ => true) (it_seq (ev_var rfl) rfl) (le_size (by omega)) (by walk_at "nr") fun x hx => ⟨_, by walk_at "tv", ?_, ?_⟩) ?_)
        · walk_at "w"
          exact Fo.le (by walk_at "fo")
        · walk_at "w"
          exact ev_call (ea_cons (ev_var rfl) (ea_cons ev_int ea_nil)) (.mk rfl)
        · rw [List.all_map]; rfl
      · rw [List.all_map]
        symm
        rw [Bool.not_eq_false']
        exact List.all_eq_true.mpr fun x _ => rfl
      · refine ev_allE clD unCl unCl_clD okC (it_seq (ev_var rfl) rfl) (le_size (by omega)) (by walk_at "nr") fun c hc => ⟨_, by walk_at "tv", ?_, ?_⟩
        · walk_at "w"
          exact Fo.le (by walk_at "fo")
        · walk_at "w"
          refine ev_and (ev_call (ea_cons (ev_ixT (ev_var rfl) ev_int rfl) ea_nil) (.mk fun ns e => h1 c hc ns e)) fun _ => ?_
          refine ev_isi (ev_ixT (ev_var rfl) ev_int rfl) kit_bool ?_ _ ?_
          · obtain ⟨x, y⟩ := c; cases y <;> rfl
          · obtain ⟨x, y⟩ := c; cases y <;> rfl
    · rw [decide_eq_false h20, Bool.false_and]
      exact out _ rfl (by show decide _ = false; rw [List.length_map]; exact decide_eq_false h20)
theorem rd_explains {cs : List Clr} {r : List Int} {g} (h : cs.length ≤ 20) (h1 : r.length ≤ 12) : Run K E (t_explains K C T E) ⟨[.dat (.tuple (cs.map cD)), .dat (rowD r), .unk, .unk, .unk], g⟩ (.rt (.bool (exPl cs r)) ⟨[.dat (.tuple (cs.map cD)), .dat (rowD r), .unk, .unk, .unk], g⟩) := by
  refine run_ret (ev_allE cD unC unC_cD (fun c => (r.any fun x => decide (x ∈ c.1)) == c.2) (it_seq (ev_var rfl) rfl) (le_size (by omega)) (by walk_at "nr") fun c hc => ⟨_, by walk_at "tv", ?_, ?_⟩)
  · walk_at "w"
    exact Fo.le (by walk_at "fo")
  · walk_at "w"
    refine ev_eqBB (ev_anyE PyData.int unI unI_int (fun x => decide (x ∈ c.1)) (it_seq (ev_var rfl) rfl) (le_size (by omega)) (by walk_at "nr") fun x hx => ⟨_, by walk_at "tv", ?_, ?_⟩) (ev_var rfl)
    · walk_at "w"
      exact Fo.le (by walk_at "fo")
    · walk_at "w"
      exact ev_inIT (ev_var rfl) (ev_var rfl)
/-! ### blamed_of -/
def esC : D → List D
  | .tuple [.tuple xs, _] => xs
  | _ => []
def p1C : D → D → Bool
  | .tuple [_, .bool b], _ => !b
  | _, _ => false
theorem lit_part (cs : List Clr) : (cs.map cD).flatMap (part2 (fun _ => true) esC p1C fun _ e => e) = (litOf cs).map PyData.int := by
  unfold litOf
  induction cs with
  | nil => rfl
  | cons c cs ih =>
    rw [List.map_cons, List.flatMap_cons, ih, List.flatMap_cons, List.map_append]
    congr 1
    unfold part2
    rw [if_pos rfl]
    show ((c.1.map PyData.int).filter fun _ => !c.2).map id = _
    cases c.2 with
    | true => simp
    | false => simp
theorem lit_len {cs : List Clr} (h : CsOk cs) : (litOf cs).length ≤ 200 := by
  obtain ⟨h1, h2⟩ := h
  have : ∀ l : List Clr, (∀ c ∈ l, seenOk c.1 = true) → (litOf l).length ≤ 10 * l.length := by
    intro l
    induction l with
    | nil => intro _; exact Nat.le_refl _
    | cons c l ih =>
      intro hc
      have a := ih fun x hx => hc x (.tail _ hx)
      have b := seen_len (hc c (.head _))
      unfold litOf at a ⊢
      rw [List.flatMap_cons, List.length_append, List.length_cons]
      have d : (if c.2 = true then [] else c.1).length ≤ 10 := by
        split
        · exact Nat.zero_le _
        · exact b
      omega
  have := this cs h2
  omega
theorem rd_blamed_of {cs : List Clr} {m : Int} {g} (h : CsOk cs) (h1 : 0 ≤ m) : Run K E (t_blamed_of K C T E) ⟨[.dat (.tuple (cs.map cD)), .dat (.int m), .unk, .unk, .unk, .unk, .unk, .unk, .unk, .unk], g⟩ (.rt (.list ((blOf cs m).map rowD)) ⟨[.dat (.tuple (cs.map cD)), .dat (.int m), .unk, .unk, .unk, .unk, .unk, .unk, .unk, .unk], g⟩) := by
  have hll := lit_len h
  have hfl := free_len cs
  have hcl := chs_len12 (n := (freeOf cs).length) (m := m) (k := (freeOf cs).length) hfl
  have hlit : Ev K (tLc2 (iSeq K (tVar 0)) (gTup K 2 (gCons (gName 5) (gCons (gName 6) gNil))) tYes (iSeq K (tVar 5)) (gName 7) (tNot (tB (tVar 6))) (tVar 7) [5, 6, 7] [7]) ⟨[.dat (.tuple (cs.map cD)), .dat (.int m), .unk, .unk, .unk, .unk, .unk, .unk, .unk, .unk], g⟩ (.list ((litOf cs).map PyData.int)) ⟨[.dat (.tuple (cs.map cD)), .dat (.int m), .unk, .unk, .unk, .unk, .unk, .unk, .unk, .unk], g⟩ := by
    refine (ev_lc2 (fun _ => true) esC p1C (fun _ e => e) (by decide) (it_seq (ev_var rfl) rfl) ?_ (by walk_at "nr") fun d hd => ?_).to (by rw [lit_part])
    · rw [lit_part, List.length_map]; exact le_size (by omega)
    · obtain ⟨c, hc, rfl⟩ := List.mem_map.mp hd
      refine ⟨_, by walk_at "tv", ?_, et_yes, fun _ => ⟨?_, fun e he => ?_⟩⟩
      · walk_at "w"
        exact Fo.le (by walk_at "fo")
      · walk_at "w"
        exact it_seq (ev_var rfl) rfl
      · walk_at "w"
        refine ⟨_, by walk_at "tv", ?_, ?_, fun _ => ?_⟩
        · walk_at "w"
          exact Fo.le (by walk_at "fo")
        · walk_at "w"
          exact et_not (et_B (ev_var rfl))
        · walk_at "w"
          exact ev_var rfl
  refine run_seq (run_asg hlit) ?_
  walk_at "d"
  have hfree : Ev K (tLc (iRng1 (tCons (tOp (rD2 K addOk addD) (tC (.int 11)) (tC (.int 1))) tNil)) (gName 7) (tTest (tOp (rD2 K inOk ninD) (tVar 7) (tVar 2))) (tVar 7) [7]) ⟨[.dat (.tuple (cs.map cD)), .dat (.int m), .dat (.list ((litOf cs).map PyData.int)), .unk, .unk, .unk, .unk, .unk, .unk, .unk], g⟩ (.list ((freeOf cs).map PyData.int)) ⟨[.dat (.tuple (cs.map cD)), .dat (.int m), .dat (.list ((litOf cs).map PyData.int)), .unk, .unk, .unk, .unk, .unk, .unk, .unk], g⟩ := by
    have hw : IterD K (iRng1 (tCons (tOp (rD2 K addOk addD) (tC (.int 11)) (tC (.int 1))) tNil)) ⟨[.dat (.tuple (cs.map cD)), .dat (.int m), .dat (.list ((litOf cs).map PyData.int)), .unk, .unk, .unk, .unk, .unk, .unk, .unk], g⟩ ((upI 12).map PyData.int) ⟨[.dat (.tuple (cs.map cD)), .dat (.int m), .dat (.list ((litOf cs).map PyData.int)), .unk, .unk, .unk, .unk, .unk, .unk, .unk], g⟩ := by
      rw [← upTo_upI]
      exact it_r1 (n := 12) (ev_addI ev_int ev_int) (by decide)
    refine ev_lcE PyData.int unI unI_int (fun x => !decide (x ∈ litOf cs)) PyData.int hw (le_size (by decide)) (by walk_at "nr") fun x hx => ⟨_, by walk_at "tv", ?_, ?_, fun _ => ?_⟩
    · walk_at "w"
      exact Fo.le (by walk_at "fo")
    · walk_at "w"
      exact et_test (ev_ninIL (ev_var rfl) (ev_var rfl))
    · walk_at "w"
      exact ev_var rfl
  refine run_seq (run_asg hfree) ?_
  walk_at "d"
  have hrows : Ev K (tLc (iSeq K (tCall (spF K (R_choices_of K C T)) [] E (tCons (tCB (rDn K lenOk lenD) (tCons (tVar 3) tNil)) (tCons (tVar 1) tNil)))) (gName 8) tYes (tCB (rDn K seqOk tupD) (tCons (tLc (iSeq K (tVar 8)) (gName 9) tYes (tOp (rD2 K ixOk ixD) (tVar 3) (tVar 9)) [9]) tNil)) [8]) ⟨[.dat (.tuple (cs.map cD)), .dat (.int m), .dat (.list ((litOf cs).map PyData.int)), .dat (.list ((freeOf cs).map PyData.int)), .unk, .unk, .unk, .unk, .unk, .unk], g⟩
      (.list (((chs (freeOf cs).length m (freeOf cs).length).map (pickF (freeOf cs))).map rowD)) ⟨[.dat (.tuple (cs.map cD)), .dat (.int m), .dat (.list ((litOf cs).map PyData.int)), .dat (.list ((freeOf cs).map PyData.int)), .unk, .unk, .unk, .unk, .unk, .unk], g⟩ := by
    refine (ev_lcMap rowD unrow unrow_rowD (fun r => rowD (pickF (freeOf cs) r)) (it_seq (ev_call (ea_cons (ev_lenLI (ev_var rfl)) (ea_cons (ev_var rfl) ea_nil)) (.mk hfl h1)) rfl) (le_size (by omega)) (by walk_at "nr") fun r hr => ⟨_, by walk_at "tv", ?_, ?_⟩).to (by rw [List.map_map]; rfl)
    · walk_at "w"
      exact Fo.le (by walk_at "fo")
    · walk_at "w"
      have hr' := (mem_chs h1).mp hr
      have hlr := asc_len (lo := 0) (hi := ((freeOf cs).length : Int)) (by omega) hr'.1 hr'.2.1
      refine Ev.to (ev_tupL (ev_lcMap PyData.int unI unI_int (fun i => .int ((freeOf cs).getD i.toNat 0)) (it_seq (ev_var rfl) rfl) (le_size (by omega)) (by walk_at "nr") fun i hi => ⟨_, by walk_at "tv", ?_, ?_⟩)) (by show PyData.tuple _ = PyData.tuple ((r.map _).map _); rw [List.map_map]; rfl)
      · walk_at "w"
        exact Fo.le (by walk_at "fo")
      · walk_at "w"
        have hi' := hr'.2.1 i hi
        refine ev_ixL (ev_var rfl) (ev_var rfl) ?_
        have e : i = (i.toNat : Int) := by omega
        have h2 : ((freeOf cs).map PyData.int)[i.toNat]? = some (.int ((freeOf cs).getD i.toNat 0)) := by
          rw [List.getElem?_map, List.getElem?_eq_getElem (by omega), getD_at (by omega)]
          rfl
        have h3 := DL.atI_nat h2
        rwa [← e] at h3
  refine run_seq (run_asg hrows) ?_
  walk_at "d"
  have hfl2 : ((chs (freeOf cs).length m (freeOf cs).length).map (pickF (freeOf cs))).length ≤ 4096 := by rw [List.length_map]; exact hcl
  refine run_retle (ev_lcE rowD unrow unrow_rowD (exPl cs) rowD (it_seq (ev_var rfl) rfl) (le_size (by omega)) (by walk_at "nr") fun r hr => ⟨_, by walk_at "tv", ?_, ?_, fun _ => ?_⟩) (Fo.le (by walk_at "fo"))
  · walk_at "w"
    exact Fo.le (by walk_at "fo")
  · walk_at "w"
    have hr' := (mem_picked (free_asc cs) h1).mp hr
    have hlr := asc_len (lo := 0) (hi := 12) (by omega) hr'.1 fun x hx => (mem_free.mp (hr'.2.1 x hx)).1
    exact et_B (ev_call (ea_cons (ev_var rfl) (ea_cons (ev_var rfl) ea_nil)) (.mk h.1 (by omega)))
  · walk_at "w"
    exact ev_var rfl
end CM

namespace DL
open PySem PySem.Spec PyProof.Rows L2
theorem run_asgX {K : PySem.W.Frag} {E : XK} {s s1 : S} {te : TE} {g : TG} {d : D} {C : Addr} {fl : Str} (h : EvR K E te s C fl d s1) : Run K E (tAsg te g) s (.ex C fl d s1) := fun σ H F fp e Ed q => h σ H F fp e _ fun dd v H' F' fp' e' st a b => q σ dd v H' F' fp' e' st a b
end DL
namespace CM
open PySem PySem.Spec PyProof.Rows L2 DL
variable {K : PySem.W.Frag} {C : Str → Addr} {T : List (Addr × Str)} {E : XK}
def sureOf (rows : List (List Int)) : List Int := (upI 12).filter fun x => !decide (rows = []) && rows.all fun r => decide (x ∈ r)
def ableOf (rows : List (List Int)) : List Int := (upI 12).filter fun x => rows.any fun r => decide (x ∈ r)
def lensOf (rows : List (List Int)) : List Int := rows.map fun r => (r.length : Int)
theorem bl_len {cs : List Clr} {m : Int} : (blOf cs m).length ≤ 4096 := by
  unfold blOf
  refine Nat.le_trans (List.length_filter_le _ _) ?_
  rw [List.length_map]
  exact chs_len12 (free_len cs)
inductive R_blamed (K : PySem.W.Frag) (C : Str → Addr) (T : List (Addr × Str)) : FR
  | ok {cs : List Clr} {m : Int} {g} (h : CsOk cs) (h1 : 0 ≤ m) (h2 : m ≤ 12) : R_blamed K C T ⟨[.dat (.tuple (cs.map cD)), .dat (.int m)], g⟩ (.rt (.tuple ((blOf cs m).map rowD)) ⟨[.dat (.tuple (cs.map cD)), .dat (.int m)], g⟩)
  | no1 {v x : D} {g} (h : CalV v false) : R_blamed K C T ⟨[.dat v, .dat x], g⟩ (.ex (C "BadArgument") "name" (.str "callers") ⟨[.dat v, .dat x], g⟩)
  | no2 {v x : D} {g} (h : CalV v true) (h1 : noScr x = true) (h2 : isIn x 0 12 = false) : R_blamed K C T ⟨[.dat v, .dat x], g⟩ (.ex (C "BadArgument") "name" (.str "most") ⟨[.dat v, .dat x], g⟩)
inductive R_surely (K : PySem.W.Frag) (C : Str → Addr) (T : List (Addr × Str)) : FR
  | ok {cs : List Clr} {m : Int} {g} (h : CsOk cs) (h1 : 0 ≤ m) (h2 : m ≤ 12) : R_surely K C T ⟨[.dat (.tuple (cs.map cD)), .dat (.int m)], g⟩ (.rt (rowD (sureOf (blOf cs m))) ⟨[.dat (.tuple (cs.map cD)), .dat (.int m)], g⟩)
  | no1 {v x : D} {g} (h : CalV v false) : R_surely K C T ⟨[.dat v, .dat x], g⟩ (.ex (C "BadArgument") "name" (.str "callers") ⟨[.dat v, .dat x], g⟩)
  | no2 {v x : D} {g} (h : CalV v true) (h1 : noScr x = true) (h2 : isIn x 0 12 = false) : R_surely K C T ⟨[.dat v, .dat x], g⟩ (.ex (C "BadArgument") "name" (.str "most") ⟨[.dat v, .dat x], g⟩)
inductive R_possibly (K : PySem.W.Frag) (C : Str → Addr) (T : List (Addr × Str)) : FR
  | ok {cs : List Clr} {m : Int} {g} (h : CsOk cs) (h1 : 0 ≤ m) (h2 : m ≤ 12) : R_possibly K C T ⟨[.dat (.tuple (cs.map cD)), .dat (.int m)], g⟩ (.rt (rowD (ableOf (blOf cs m))) ⟨[.dat (.tuple (cs.map cD)), .dat (.int m)], g⟩)
  | no1 {v x : D} {g} (h : CalV v false) : R_possibly K C T ⟨[.dat v, .dat x], g⟩ (.ex (C "BadArgument") "name" (.str "callers") ⟨[.dat v, .dat x], g⟩)
  | no2 {v x : D} {g} (h : CalV v true) (h1 : noScr x = true) (h2 : isIn x 0 12 = false) : R_possibly K C T ⟨[.dat v, .dat x], g⟩ (.ex (C "BadArgument") "name" (.str "most") ⟨[.dat v, .dat x], g⟩)
inductive R_least_blamed (K : PySem.W.Frag) (C : Str → Addr) (T : List (Addr × Str)) : FR
  | ok {cs : List Clr} {g} (h : CsOk cs) : R_least_blamed K C T ⟨[.dat (.tuple (cs.map cD))], g⟩ (.rt (minN (lensOf (blOf cs 12))) ⟨[.dat (.tuple (cs.map cD))], g⟩)
  | no1 {v : D} {g} (h : CalV v false) : R_least_blamed K C T ⟨[.dat v], g⟩ (.ex (C "BadArgument") "name" (.str "callers") ⟨[.dat v], g⟩)
def t_blamed (K : PySem.W.Frag) (C : Str → Addr) (T : List (Addr × Str)) (E : XK) : TS :=
  (tSeq (tDrop (tCall (spF K (R_demand K C T)) [] E (tCons (tCall (spF K (R_are_callers K C T)) [] E (tCons (tVar 0) tNil)) (tCons (tC (.str "callers")) tNil))))
    (tSeq (tDrop (tCall (spF K (R_demand K C T)) [] E (tCons (tCall (spF K (R_is_in K C T)) [] E (tCons (tVar 1) (tCons (tC (.int 0)) (tCons (tOp (rD2 K addOk addD) (tC (.int 11)) (tC (.int 1))) tNil)))) (tCons (tC (.str "most")) tNil))))
    (tRet (tCB (rDn K seqOk tupD) (tCons (tCall (spF K (R_blamed_of K C T)) [] E (tCons (tVar 0) (tCons (tVar 1) tNil))) tNil)))))
def t_surely (K : PySem.W.Frag) (C : Str → Addr) (T : List (Addr × Str)) (E : XK) : TS :=
  (tSeq (tAsg (tCall (spF K (R_blamed K C T)) [] E (tCons (tVar 0) (tCons (tVar 1) tNil))) (gName 2))
    (tRet (tCB (rDn K seqOk tupD) (tCons (tLc (iRng1 (tCons (tOp (rD2 K addOk addD) (tC (.int 11)) (tC (.int 1))) tNil)) (gName 3) (tAnd (tTest (tOp (rD2 K eqOk neD) (tVar 2) (tTup tNil))) (tB (tCB (rDn K allOk allD) (tCons (tLc (iSeq K (tVar 2)) (gName 4) tYes (tOp (rD2 K inOk inD) (tVar 3) (tVar 4)) [4]) tNil)))) (tVar 3) [3]) tNil))))
def t_possibly (K : PySem.W.Frag) (C : Str → Addr) (T : List (Addr × Str)) (E : XK) : TS :=
  (tSeq (tAsg (tCall (spF K (R_blamed K C T)) [] E (tCons (tVar 0) (tCons (tVar 1) tNil))) (gName 2))
    (tRet (tCB (rDn K seqOk tupD) (tCons (tLc (iRng1 (tCons (tOp (rD2 K addOk addD) (tC (.int 11)) (tC (.int 1))) tNil)) (gName 3) (tB (tCB (rDn K allOk anyD) (tCons (tLc (iSeq K (tVar 2)) (gName 4) tYes (tOp (rD2 K inOk inD) (tVar 3) (tVar 4)) [4]) tNil))) (tVar 3) [3]) tNil))))
def t_least_blamed (K : PySem.W.Frag) (C : Str → Addr) (T : List (Addr × Str)) (E : XK) : TS :=
  (tSeq (tDrop (tCall (spF K (R_demand K C T)) [] E (tCons (tCall (spF K (R_are_callers K C T)) [] E (tCons (tVar 0) tNil)) (tCons (tC (.str "callers")) tNil))))
    (tSeq (tAsg (tCall (spF K (R_blamed_of K C T)) [] E (tCons (tVar 0) (tCons (tOp (rD2 K addOk addD) (tC (.int 11)) (tC (.int 1))) tNil))) (gName 1))
    (tRet (tCKw (rDK K mdOk mdD) (tCons (tLc (iSeq K (tVar 1)) (gName 2) tYes (tCB (rDn K lenOk lenD) (tCons (tVar 2) tNil)) [2]) tNil) (tCons (tC .non) tNil)))))
theorem isIn12 {m : Int} (h1 : 0 ≤ m) (h2 : m ≤ 12) : isIn (.int m) 0 12 = true := by unfold isIn; simp [h1, h2]
theorem rd_blamed_ok {cs : List Clr} {m : Int} {g} (h : CsOk cs) (h1 : 0 ≤ m) (h2 : m ≤ 12) : Run K E (t_blamed K C T E) ⟨[.dat (.tuple (cs.map cD)), .dat (.int m)], g⟩ (.rt (.tuple ((blOf cs m).map rowD)) ⟨[.dat (.tuple (cs.map cD)), .dat (.int m)], g⟩) := by
  have hi := isIn12 h1 h2
  refine run_seq (run_drop (ev_call (ea_cons (ev_call (ea_cons (ev_var rfl) ea_nil) (.mk h.cal)) (ea_cons ev_str ea_nil)) (.ok rfl))) ?_
  refine run_seq (run_drop (ev_call (ea_cons (ev_call (ea_cons (ev_var rfl) (ea_cons ev_int (ea_cons (ev_addI ev_int ev_int) ea_nil))) (.mk rfl)) (ea_cons ev_str ea_nil)) (.ok hi))) ?_
  exact run_ret (ev_tupL (ev_call (ea_cons (ev_var rfl) (ea_cons (ev_var rfl) ea_nil)) (.mk h h1)))
theorem rd_blamed_no1 {v x : D} {g} (h : CalV v false) : Run K E (t_blamed K C T E) ⟨[.dat v, .dat x], g⟩ (.ex (C "BadArgument") "name" (.str "callers") ⟨[.dat v, .dat x], g⟩) :=
  run_end (run_dropX (er_call (ea_cons (ev_call (ea_cons (ev_var rfl) ea_nil) (.mk h)) (ea_cons ev_str ea_nil)) (.no rfl))) rfl
theorem rd_blamed_no2 {v x : D} {g} (h : CalV v true) (h1 : noScr x = true) (h2 : isIn x 0 12 = false) : Run K E (t_blamed K C T E) ⟨[.dat v, .dat x], g⟩ (.ex (C "BadArgument") "name" (.str "most") ⟨[.dat v, .dat x], g⟩) := by
  refine run_seq (run_drop (ev_call (ea_cons (ev_call (ea_cons (ev_var rfl) ea_nil) (.mk h)) (ea_cons ev_str ea_nil)) (.ok rfl))) ?_
  exact run_end (run_dropX (er_call (ea_cons (ev_call (ea_cons (ev_var rfl) (ea_cons ev_int (ea_cons (ev_addI ev_int ev_int) ea_nil))) (.mk h1)) (ea_cons ev_str ea_nil)) (.no h2))) rfl
theorem it_12 {s : S} : IterD K (iRng1 (tCons (tOp (rD2 K addOk addD) (tC (.int 11)) (tC (.int 1))) tNil)) s ((upI 12).map PyData.int) s := by
  rw [← upTo_upI]
  exact it_r1 (n := 12) (ev_addI ev_int ev_int) (by decide)
theorem rd_surely_ok {cs : List Clr} {m : Int} {g} (h : CsOk cs) (h1 : 0 ≤ m) (h2 : m ≤ 12) : Run K E (t_surely K C T E) ⟨[.dat (.tuple (cs.map cD)), .dat (.int m), .unk, .unk, .unk], g⟩ (.rt (rowD (sureOf (blOf cs m))) ⟨[.dat (.tuple (cs.map cD)), .dat (.int m), .unk, .unk, .unk], g⟩) := by
  have hl := bl_len (cs := cs) (m := m)
  refine run_seq (run_asg (ev_call (ea_cons (ev_var rfl) (ea_cons (ev_var rfl) ea_nil)) (.ok h h1 h2))) ?_
  walk_at "d"
  refine run_retle (ev_tupL (ev_lcE PyData.int unI unI_int (fun x => !decide (blOf cs m = []) && (blOf cs m).all fun r => decide (x ∈ r)) PyData.int it_12 (le_size (by decide)) (by walk_at "nr") fun x hx => ⟨_, by walk_at "tv", ?_, ?_, fun _ => ?_⟩)) (Fo.le (by walk_at "fo"))
  · walk_at "w"
    exact Fo.le (by walk_at "fo")
  · walk_at "w"
    refine et_and (et_test (ev_neRT (ys := []) (ev_var rfl) (ev_tup ea_nil (by walk_at "side")))) fun _ => et_B (ev_allE rowD unrow unrow_rowD (fun r => decide (x ∈ r)) (it_seq (ev_var rfl) rfl) (le_size (by omega)) (by walk_at "nr") fun r hr => ⟨_, by walk_at "tv", ?_, ?_⟩)
    · walk_at "w"
      exact Fo.le (by walk_at "fo")
    · walk_at "w"
      exact ev_inIT (ev_var rfl) (ev_var rfl)
  · walk_at "w"
    exact ev_var rfl
theorem rd_surely_no1 {v x : D} {g} (h : CalV v false) : Run K E (t_surely K C T E) ⟨[.dat v, .dat x, .unk, .unk, .unk], g⟩ (.ex (C "BadArgument") "name" (.str "callers") ⟨[.dat v, .dat x, .unk, .unk, .unk], g⟩) :=
  run_end (run_asgX (er_call (ea_cons (ev_var rfl) (ea_cons (ev_var rfl) ea_nil)) (.no1 h))) rfl
theorem rd_surely_no2 {v x : D} {g} (h : CalV v true) (h1 : noScr x = true) (h2 : isIn x 0 12 = false) : Run K E (t_surely K C T E) ⟨[.dat v, .dat x, .unk, .unk, .unk], g⟩ (.ex (C "BadArgument") "name" (.str "most") ⟨[.dat v, .dat x, .unk, .unk, .unk], g⟩) :=
  run_end (run_asgX (er_call (ea_cons (ev_var rfl) (ea_cons (ev_var rfl) ea_nil)) (.no2 h h1 h2))) rfl
theorem rd_possibly_ok {cs : List Clr} {m : Int} {g} (h : CsOk cs) (h1 : 0 ≤ m) (h2 : m ≤ 12) : Run K E (t_possibly K C T E) ⟨[.dat (.tuple (cs.map cD)), .dat (.int m), .unk, .unk, .unk], g⟩ (.rt (rowD (ableOf (blOf cs m))) ⟨[.dat (.tuple (cs.map cD)), .dat (.int m), .unk, .unk, .unk], g⟩) := by
  have hl := bl_len (cs := cs) (m := m)
  refine run_seq (run_asg (ev_call (ea_cons (ev_var rfl) (ea_cons (ev_var rfl) ea_nil)) (.ok h h1 h2))) ?_
  walk_at "d"
  refine run_retle (ev_tupL (ev_lcE PyData.int unI unI_int (fun x => (blOf cs m).any fun r => decide (x ∈ r)) PyData.int it_12 (le_size (by decide)) (by walk_at "nr") fun x hx => ⟨_, by walk_at "tv", ?_, ?_, fun _ => ?_⟩)) (Fo.le (by walk_at "fo"))
  · walk_at "w"
    exact Fo.le (by walk_at "fo")
  · walk_at "w"
    refine et_B (ev_anyE rowD unrow unrow_rowD (fun r => decide (x ∈ r)) (it_seq (ev_var rfl) rfl) (le_size (by omega)) (by walk_at "nr") fun r hr => ⟨_, by walk_at "tv", ?_, ?_⟩)
    · walk_at "w"
      exact Fo.le (by walk_at "fo")
    · walk_at "w"
      exact ev_inIT (ev_var rfl) (ev_var rfl)
  · walk_at "w"
    exact ev_var rfl
theorem rd_possibly_no1 {v x : D} {g} (h : CalV v false) : Run K E (t_possibly K C T E) ⟨[.dat v, .dat x, .unk, .unk, .unk], g⟩ (.ex (C "BadArgument") "name" (.str "callers") ⟨[.dat v, .dat x, .unk, .unk, .unk], g⟩) :=
  run_end (run_asgX (er_call (ea_cons (ev_var rfl) (ea_cons (ev_var rfl) ea_nil)) (.no1 h))) rfl
theorem rd_possibly_no2 {v x : D} {g} (h : CalV v true) (h1 : noScr x = true) (h2 : isIn x 0 12 = false) : Run K E (t_possibly K C T E) ⟨[.dat v, .dat x, .unk, .unk, .unk], g⟩ (.ex (C "BadArgument") "name" (.str "most") ⟨[.dat v, .dat x, .unk, .unk, .unk], g⟩) :=
  run_end (run_asgX (er_call (ea_cons (ev_var rfl) (ea_cons (ev_var rfl) ea_nil)) (.no2 h h1 h2))) rfl
theorem rd_least_blamed_ok {cs : List Clr} {g} (h : CsOk cs) : Run K E (t_least_blamed K C T E) ⟨[.dat (.tuple (cs.map cD)), .unk, .unk], g⟩ (.rt (minN (lensOf (blOf cs 12))) ⟨[.dat (.tuple (cs.map cD)), .unk, .unk], g⟩) := by
  have hl := bl_len (cs := cs) (m := 12)
  refine run_seq (run_drop (ev_call (ea_cons (ev_call (ea_cons (ev_var rfl) ea_nil) (.mk h.cal)) (ea_cons ev_str ea_nil)) (.ok rfl))) ?_
  refine run_seq (run_asg (ev_call (ea_cons (ev_var rfl) (ea_cons (Ev.to (ev_addI ev_int ev_int) (rfl : PyData.int (11 + 1) = PyData.int 12)) ea_nil)) (R_blamed_of.mk (m := 12) h (by decide)))) ?_
  walk_at "d"
  refine run_retle (ev_minD (ns := lensOf (blOf cs 12)) (Ev.to (ev_lcMap rowD unrow unrow_rowD (fun r => .int (r.length : Int)) (it_seq (ev_var rfl) rfl) (le_size (by omega)) (by walk_at "nr") fun r hr => ⟨_, by walk_at "tv", ?_, ?_⟩) (by unfold lensOf; rw [List.map_map]; rfl)) ev_non) (Fo.le (by walk_at "fo"))
  · walk_at "w"
    exact Fo.le (by walk_at "fo")
  · walk_at "w"
    exact ev_lenTI (ev_var rfl)
theorem rd_least_blamed_no1 {v : D} {g} (h : CalV v false) : Run K E (t_least_blamed K C T E) ⟨[.dat v, .unk, .unk], g⟩ (.ex (C "BadArgument") "name" (.str "callers") ⟨[.dat v, .unk, .unk], g⟩) :=
  run_end (run_dropX (er_call (ea_cons (ev_call (ea_cons (ev_var rfl) ea_nil) (.mk h)) (ea_cons ev_str ea_nil)) (.no rfl))) rfl
end CM

namespace K19
open PySem PySem.Spec PyProof.Rows L2 DL CM
variable {K : PySem.W.Frag} {C : Str → Addr} {T : List (Addr × Str)} {E : XK}
inductive R__law_subsets (K : PySem.W.Frag) (C : Str → Addr) (T : List (Addr × Str)) : FR
  | mk {n : Nat} {m : Int} {g} (h : n ≤ 12) (h1 : 0 ≤ m) : R__law_subsets K C T ⟨[.dat (.int n), .dat (.int m)], g⟩ (.rt (.list ((chs n m n).map rowD)) ⟨[.dat (.int n), .dat (.int m)], g⟩)
inductive R__law_explains (K : PySem.W.Frag) (C : Str → Addr) (T : List (Addr × Str)) : FR
  | mk {cs : List Clr} {r : List Int} {g} (h : CsOk cs) (h1 : r.length ≤ 12) : R__law_explains K C T ⟨[.dat (.tuple (cs.map cD)), .dat (rowD r)], g⟩ (.rt (.bool (exPl cs r)) ⟨[.dat (.tuple (cs.map cD)), .dat (rowD r)], g⟩)
def t__law_subsets (K : PySem.W.Frag) (C : Str → Addr) (T : List (Addr × Str)) (E : XK) : TS :=
  (tSeq (tAsg (tLst (tCons (tTup tNil) tNil)) (gName 2))
    (tSeq (tFor (iRng1 (tCons (tVar 0) tNil)) (gName 3) (tAsg (tOp (rD2 K addOk addD) (tVar 2) (tLc (iSeq K (tVar 2)) (gName 4) (tTest (tOp (rD2 K ltXOk ltXD) (tCB (rDn K lenOk lenD) (tCons (tVar 4) tNil)) (tVar 1))) (tOp (rD2 K addOk addD) (tVar 4) (tTup (tCons (tVar 3) tNil))) [4])) (gName 2)))
    (tRet (tCB (rDl K sortOkT sortLT) (tCons (tVar 2) tNil)))))
def t__law_explains (K : PySem.W.Frag) (C : Str → Addr) (T : List (Addr × Str)) (E : XK) : TS :=
  (tSeq (tFor (iSeq K (tVar 0)) (gTup K 2 (gCons (gName 2) (gCons (gName 3) gNil))) (tIfS (tTest (tOp (rD2 K eqOk neD) (tOp (rD2 K eqOk neD) (tLc (iSeq K (tVar 2)) (gName 4) (tTest (tOp (rD2 K inOk inD) (tVar 4) (tVar 1))) (tVar 4) [4]) (tLst tNil)) (tVar 3))) (tRet (tC (.bl false))) tNext))
    (tRet (tC (.bl true))))
theorem lsub_len (m : Int) : ∀ k, (lsub m k).length ≤ 2 ^ k
  | 0 => by show 1 ≤ 1; omega
  | k + 1 => by
    have ih := lsub_len m k
    have h1 : (shorter m (lsub m k)).length ≤ (lsub m k).length := List.length_filter_le _ _
    rw [lsub, List.length_append, List.length_map, Nat.pow_succ]
    omega
theorem lsub_len12 {m : Int} {k : Nat} (h : k ≤ 12) : (lsub m k).length ≤ 4096 := Nat.le_trans (lsub_len m k) (Nat.pow_le_pow_right (by decide) h)
theorem rd__law_subsets {n : Nat} {m : Int} {g} (h : n ≤ 12) (h1 : 0 ≤ m) : Run K E (t__law_subsets K C T E) ⟨[.dat (.int n), .dat (.int m), .unk, .unk, .unk], g⟩ (.rt (.list ((chs n m n).map rowD)) ⟨[.dat (.int n), .dat (.int m), .unk, .unk, .unk], g⟩) := by
  walk_at "s"
  refine run_seq (run_for (fun i => ⟨[.dat (.int n), .dat (.int m), .dat (.list ((lsub m i).map rowD)), .unk, .unk], g⟩) (it_r1 (ev_var rfl) (by omega)) (SLe.refl _) fun i d hd => ?_) ?_
  · obtain ⟨hi, rfl⟩ := upTo_get hd
    rw [Int.toNat_natCast] at hi
    rw [Int.zero_add]
    have hl := lsub_len12 (m := m) (k := i) (by omega)
    have hl1 : (shorter m (lsub m i)).length ≤ (lsub m i).length := List.length_filter_le _ _
    refine ⟨_, by walk_at "tg", ?_⟩
    walk_at "d"
    apply run_le
    · apply run_asg
      refine Ev.to (ev_addL (ys := ((shorter m (lsub m i)).map (fun r => r ++ [(i : Int)])).map rowD) (ev_var rfl) (Ev.to (ev_lcE rowD unrow unrow_rowD (fun r => decide ((r.length : Int) < m)) (fun r => rowD (r ++ [(i : Int)])) (it_seq (ev_var rfl) rfl) (le_size (by omega)) (by walk_at "nr") fun r hr => ⟨_, by walk_at "tv", ?_, ?_, fun hq => ?_⟩) ?_) ?_) (?_ : _ = PyData.list ((lsub m (i + 1)).map rowD))
      · walk_at "w"
        exact Fo.le (by walk_at "fo")
      · walk_at "w"
        exact et_test (ev_ltI (ev_lenTI (ev_var rfl)) (ev_var rfl))
      · walk_at "w"
        have hr' := (((lsub_spec m h1 i).1 r).mp hr)
        have hlr := asc_len (lo := 0) (hi := (i : Int)) (by omega) hr'.1 hr'.2.1
        refine Ev.to (ev_addT (ev_var rfl) (ev_tup (ea_cons (ev_var rfl) ea_nil) (by walk_at "side")) ?_) ?_
        · rw [List.length_map]
          exact le_size (by simp only [List.length_singleton]; omega)
        · show PyData.tuple _ = PyData.tuple _
          rw [List.map_append]; rfl
      · rw [List.map_map]; rfl
      · rw [List.length_map, List.length_map, List.length_map]
        exact le_size (by omega)
      · rw [← List.map_append]; rfl
    · walk_at "d"
      exact Fo.le (by walk_at "fo")
  · rw [upTo_len, Int.toNat_natCast]
    obtain ⟨t, ht⟩ := lsub_head m n
    refine run_retle (Ev.to (ev_sortRL (ev_var rfl) (.inr (by rw [ht]; rfl))) (by rw [lsub_chs n m h1])) (Fo.le (by walk_at "fo"))
def fails (r : List Int) (c : Clr) : Bool := !((!decide ((c.1.filter fun x => decide (x ∈ r)) = [])) == c.2)
theorem fails_ex {r : List Int} {c : Clr} : fails r c = !((r.any fun x => decide (x ∈ c.1)) == c.2) := by
  unfold fails
  rw [← ex_law]
  congr 2
  cases c.1.filter fun x => decide (x ∈ r) <;> rfl
theorem rd__law_explains {cs : List Clr} {r : List Int} {g} (h : CsOk cs) (h1 : r.length ≤ 12) : Run K E (t__law_explains K C T E) ⟨[.dat (.tuple (cs.map cD)), .dat (rowD r), .unk, .unk, .unk], g⟩ (.rt (.bool (exPl cs r)) ⟨[.dat (.tuple (cs.map cD)), .dat (rowD r), .unk, .unk, .unk], g⟩) := by
  have test : ∀ c ∈ cs, EvT K (tTest (tOp (rD2 K eqOk neD) (tOp (rD2 K eqOk neD) (tLc (iSeq K (tVar 2)) (gName 4) (tTest (tOp (rD2 K inOk inD) (tVar 4) (tVar 1))) (tVar 4) [4]) (tLst tNil)) (tVar 3))) ⟨[.dat (.tuple (cs.map cD)), .dat (rowD r), .dat (rowD c.1), .dat (.bool c.2), .unk], g⟩ (fails r c) ⟨[.dat (.tuple (cs.map cD)), .dat (rowD r), .dat (rowD c.1), .dat (.bool c.2), .unk], g⟩ := by
    intro c hc
    have hl := seen_len (h.2 c hc)
    refine et_test (ev_neBB (ev_neIL (ms := []) (ev_lcE PyData.int unI unI_int (fun x => decide (x ∈ r)) PyData.int (it_seq (ev_var rfl) rfl) (le_size (by omega)) (by walk_at "nr") fun x hx => ⟨_, by walk_at "tv", ?_, ?_, fun _ => ?_⟩) (ev_lst ea_nil (by walk_at "side"))) (ev_var rfl))
    · walk_at "w"
      exact Fo.le (by walk_at "fo")
    · walk_at "w"
      exact et_test (ev_inIT (ev_var rfl) (ev_var rfl))
    · walk_at "w"
      exact ev_var rfl
  have ex : exPl cs r = cs.all fun c => !fails r c := by
    unfold exPl
    congr 1
    funext c
    rw [fails_ex, Bool.not_not]
  rw [ex]
  cases ha : cs.all fun c => !fails r c with
  | true =>
    refine run_seq (run_forAll (s0 := ⟨[.dat (.tuple (cs.map cD)), .dat (rowD r), .unk, .unk, .unk], g⟩) (fun d => fails r (unC d)) (it_seq (ev_var rfl) rfl) (SLe.refl _) (fun d hd => ?_) fun d hd hp => ?_) ?_
    · obtain ⟨c, hc, rfl⟩ := List.mem_map.mp hd
      have := List.all_eq_true.mp ha c hc
      rw [unC_cD]
      simpa using this
    · obtain ⟨c, hc, rfl⟩ := List.mem_map.mp hd
      rw [unC_cD] at hp
      refine ⟨_, by walk_at "tg", ?_⟩
      walk_at "d"
      exact run_le (run_no ((test c hc).to hp) run_next) (Fo.le (by walk_at "fo"))
    · exact run_ret ev_bl
  | false =>
    have he : ∃ d ∈ cs.map cD, fails r (unC d) = true := by
      rw [List.all_eq_false] at ha
      obtain ⟨c, hc, h2⟩ := ha
      exact ⟨cD c, List.mem_map.mpr ⟨c, hc, rfl⟩, by rw [unC_cD]; simpa using h2⟩
    apply run_end
    · refine run_forAny (s0 := ⟨[.dat (.tuple (cs.map cD)), .dat (rowD r), .unk, .unk, .unk], g⟩) (fun d => fails r (unC d)) (it_seq (ev_var rfl) rfl) (SLe.refl _) he (fun d hd hp => ?_) fun d hd hp => ?_
      · obtain ⟨c, hc, rfl⟩ := List.mem_map.mp hd
        rw [unC_cD] at hp
        refine ⟨_, by walk_at "tg", ?_⟩
        walk_at "d"
        exact run_le (run_no ((test c hc).to hp) run_next) (Fo.le (by walk_at "fo"))
      · obtain ⟨c, hc, rfl⟩ := List.mem_map.mp hd
        rw [unC_cD] at hp
        refine ⟨_, .rt (.bool false) ⟨[.dat (.tuple (cs.map cD)), .dat (rowD r), .unk, .unk, .unk], g⟩, by walk_at "tg", ?_, rfl, rfl⟩
        walk_at "d"
        exact run_yes ((test c hc).to hp) (run_retle ev_bl (Fo.le (by walk_at "fo")))
    · rfl
/-! ### wrong arguments -/
def bads : List D := [.none, .list [], .tuple [.tuple [.tuple [.int 0], .int 1]], .tuple [.tuple [.tuple [.int 1, .int 0], .bool true]], .tuple [.tuple [.tuple [.int 12], .bool true]], .tuple [.tuple [.int 0, .bool true]], .tuple [.tuple [.tuple [.int 0]]], .tuple (List.replicate (21 : Int).toNat [.tuple [.tuple [], .bool true]]).flatten]
theorem bad_is {d : Dice} : ∃ v, pick d bads = v ∧ CalV v false := by
  have h := pick_mem (d := d) (xs := bads) (List.cons_ne_nil _ _)
  generalize pick d bads = y at h ⊢
  refine ⟨y, rfl, ?_⟩
  unfold bads at h
  simp only [List.mem_cons, List.not_mem_nil, or_false] at h
  have two : ∀ (cs : List CD) (v : D), v = .tuple (cs.map clD) → cs.length ≤ 1000 → (∀ c ∈ cs, ∀ ns, c.1 = .inl ns → ns.length ≤ 1000) → (decide ((cs.length : Int) ≤ 20) && cs.all okC) = false → CalV v false := by
    rintro cs v rfl h1 h2 h3
    have := CalV.mk cs h1 h2
    rw [h3] at this
    exact this
  have one : ∀ (c : CD) (v : D), v = .tuple [clD c] → (∀ ns, c.1 = .inl ns → ns.length ≤ 1000) → okC c = false → CalV v false := fun c v hv h1 h2 =>
    two [c] v hv (by simp) (fun c' hc' ns e => by rw [List.mem_singleton.mp hc'] at e; exact h1 ns e) (by simp [h2])
  rcases h with h | h | h | h | h | h | h | h <;> subst h
  · exact .no _ rfl rfl
  · exact .no _ rfl rfl
  · exact one (.inl [0], .inr 1) _ rfl (fun ns e => by cases e; decide) (by decide)
  · exact one (.inl [1, 0], .inl true) _ rfl (fun ns e => by cases e; decide) (by decide)
  · exact one (.inl [12], .inl true) _ rfl (fun ns e => by cases e; decide) (by decide)
  · exact one (.inr 0, .inl true) _ rfl (fun ns e => by cases e) (by decide)
  · exact .odd
  · exact .no _ rfl (by decide +kernel)
theorem odd_is {d : Dice} : ∃ v, pick d [.int (-1), .int 13, .none, .bool true] = v ∧ noScr v = true ∧ isIn v 0 12 = false := by
  have h := pick_mem (d := d) (xs := [.int (-1), .int 13, .none, .bool true]) (List.cons_ne_nil _ _)
  generalize pick d [.int (-1), .int 13, .none, .bool true] = y at h ⊢
  refine ⟨y, rfl, ?_⟩
  simp only [List.mem_cons, List.not_mem_nil, or_false] at h
  rcases h with h | h | h | h <;> subst h <;> exact ⟨rfl, rfl⟩
theorem cal_nil : CalV (.tuple []) true := CsOk.cal (cs := []) ⟨by simp, fun c h => by simp at h⟩
theorem told_ok : SeqAt.shaped (.list [.str "callers", .str "most", .str "callers", .str "most", .str "callers", .str "most", .str "callers"]) = true := by decide +kernel
inductive R__law_refuses (K : PySem.W.Frag) (C : Str → Addr) (T : List (Addr × Str)) : FR
  | mk {v d n} (hd : DOk n d) (hn : n < 1000000) : R__law_refuses K C T ⟨[.res (lstR K (some v) (dl d))], T⟩ (.rt (.bool true) ⟨[.res (lstR K (some v) (dl (CM.rd (CM.rd d (8 : Nat)) (4 : Nat))))], T⟩)
def t__law_refuses (K : PySem.W.Frag) (C : Str → Addr) (T : List (Addr × Str)) (E : XK) : TS :=
  (tSeq (tAsg (tTup (tCons (tCall (spF K (R__law_pick K C T)) [] E (tCons (tVar 0) (tCons (tLst (tCons (tC .non) (tCons (tLst tNil) (tCons (tTup (tCons (tTup (tCons (tTup (tCons (tC (.int 0)) tNil)) (tCons (tC (.int 1)) tNil))) tNil)) (tCons (tTup (tCons (tTup (tCons (tTup (tCons (tC (.int 1)) (tCons (tC (.int 0)) tNil))) (tCons (tC (.bl true)) tNil))) tNil)) (tCons (tTup (tCons (tTup (tCons (tTup (tCons (tC (.int 12)) tNil)) (tCons (tC (.bl true)) tNil))) tNil)) (tCons (tTup (tCons (tTup (tCons (tC (.int 0)) (tCons (tC (.bl true)) tNil))) tNil)) (tCons (tTup (tCons (tTup (tCons (tTup (tCons (tC (.int 0)) tNil)) tNil)) tNil)) (tCons (tOp (rD2 K mulOkV mulD) (tTup (tCons (tTup (tCons (tTup tNil) (tCons (tC (.bl true)) tNil))) tNil)) (tC (.int 21))) tNil))))))))) tNil))) (tCons (tCall (spF K (R__law_pick K C T)) [] E (tCons (tVar 0) (tCons (tLst (tCons (tUn (rD1 K negOk negD) (tC (.int 1))) (tCons (tC (.int 13)) (tCons (tC .non) (tCons (tC (.bl true)) tNil))))) tNil))) tNil))) (gTup K 2 (gCons (gName 2) (gCons (gName 3) gNil))))
    (tSeq (tAsg (tLst (tCons (LamX.tLam T (BX.TRef K (C "BadArgument") "name" "") (fun E' => (tCall (spF K (R_blamed K C T)) [] E' (tCons (tVar 2) (tCons (tVar 3) tNil))))) (tCons (LamX.tLam T (BX.TRef K (C "BadArgument") "name" "") (fun E' => (tCall (spF K (R_blamed K C T)) [] E' (tCons (tTup tNil) (tCons (tVar 3) tNil))))) (tCons (LamX.tLam T (BX.TRef K (C "BadArgument") "name" "") (fun E' => (tCall (spF K (R_surely K C T)) [] E' (tCons (tVar 2) (tCons (tVar 3) tNil))))) (tCons (LamX.tLam T (BX.TRef K (C "BadArgument") "name" "") (fun E' => (tCall (spF K (R_surely K C T)) [] E' (tCons (tTup tNil) (tCons (tVar 3) tNil))))) tNil))))) (gName 1))
    (tSeq (tAsg (tOp (rD2 K addOk addD) (tVar 1) (tLst (tCons (LamX.tLam T (BX.TRef K (C "BadArgument") "name" "") (fun E' => (tCall (spF K (R_possibly K C T)) [] E' (tCons (tVar 2) (tCons (tVar 3) tNil))))) (tCons (LamX.tLam T (BX.TRef K (C "BadArgument") "name" "") (fun E' => (tCall (spF K (R_possibly K C T)) [] E' (tCons (tTup tNil) (tCons (tVar 3) tNil))))) (tCons (LamX.tLam T (BX.TRef K (C "BadArgument") "name" "") (fun E' => (tCall (spF K (R_least_blamed K C T)) [] E' (tCons (tVar 2) tNil)))) tNil))))) (gName 1))
    (tRet (tOp (rD2 K eqOk eqD) (tVar 1) (tLst (tCons (tC (.str "callers")) (tCons (tC (.str "most")) (tCons (tC (.str "callers")) (tCons (tC (.str "most")) (tCons (tC (.str "callers")) (tCons (tC (.str "most")) (tCons (tC (.str "callers")) tNil)))))))))))))
end K19

namespace K19
open PySem PySem.Spec PyProof.Rows L2 DL CM
variable {K : PySem.W.Frag} {C : Str → Addr} {T : List (Addr × Str)} {E : XK}
theorem rd__law_refuses {v : V} {d : Dice} {n : Int} (hd : DOk n d) (hn : n < 1000000) :
    Run K E (t__law_refuses K C T E) ⟨[.res (lstR K (some v) (dl d)), .unk, .unk, .unk], T⟩ (.rt (.bool true) ⟨[.res (lstR K (some v) (dl (CM.rd (CM.rd d (8 : Nat)) (4 : Nat)))), .unk, .unk, .unk], T⟩) := by
  obtain ⟨vb, eb, nb⟩ := bad_is (d := d)
  obtain ⟨vo, eo, no, no2⟩ := odd_is (d := CM.rd d (8 : Nat))
  have cn := cal_nil
  apply run_seq
  · apply run_asgT
    · apply ev_tup
      · apply ea_cons
        · apply Ev.to
          · walk_at "ev"
          · exact eb
        apply ea_cons
        · apply Ev.to
          · walk_at "ev"
          · exact eo
        exact ea_nil
      · exact le_size (by simp)
    · walk_at "tg"
  walk_at "d"
  have nil : ∀ {s : S}, Ev K (tTup tNil) s (.tuple []) s := fun {s} => ev_tup ea_nil (by walk_at "side")
  apply run_seq
  · apply run_asg (d := .list [.str "callers", .str "most", .str "callers", .str "most"])
    apply ev_lst
    · apply ea_cons
      · exact ev_lamX fun _ => er_call (ea_cons (ev_var rfl) (ea_cons (ev_var rfl) ea_nil)) (.no1 nb)
      apply ea_cons
      · exact ev_lamX fun _ => er_call (ea_cons nil (ea_cons (ev_var rfl) ea_nil)) (.no2 cn no no2)
      apply ea_cons
      · exact ev_lamX fun _ => er_call (ea_cons (ev_var rfl) (ea_cons (ev_var rfl) ea_nil)) (.no1 nb)
      apply ea_cons
      · exact ev_lamX fun _ => er_call (ea_cons nil (ea_cons (ev_var rfl) ea_nil)) (.no2 cn no no2)
      exact ea_nil
    · exact le_size (by decide)
  walk_at "d"
  apply run_seq
  · apply run_asg (d := .list ([.str "callers", .str "most", .str "callers", .str "most"] ++ [.str "callers", .str "most", .str "callers"]))
    apply ev_addL
    · exact ev_var rfl
    · apply ev_lst
      · apply ea_cons
        · exact ev_lamX fun _ => er_call (ea_cons (ev_var rfl) (ea_cons (ev_var rfl) ea_nil)) (.no1 nb)
        apply ea_cons
        · exact ev_lamX fun _ => er_call (ea_cons nil (ea_cons (ev_var rfl) ea_nil)) (.no2 cn no no2)
        apply ea_cons
        · exact ev_lamX fun _ => er_call (ea_cons (ev_var rfl) ea_nil) (.no1 nb)
        exact ea_nil
      · exact le_size (by decide)
    · exact le_size (by decide)
  walk_at "d"
  apply run_retle
  · apply Ev.to
    · apply ev_eqT
      · exact ev_var rfl
      · apply ev_lst
        · walk_at "ea"
        · exact le_size (by decide)
      · exact ⟨told_ok, told_ok⟩
    · exact congrArg PyData.bool (eqv_refl _ (flat_of_canLay (SeqAt.canLay_of_shaped told_ok)))
  · exact Fo.le (by walk_at "fo")
end K19

namespace CM
open PySem PySem.Spec PyProof.Rows L2 DL
variable {K : PySem.W.Frag} {C : Str → Addr} {T : List (Addr × Str)} {E : XK}
/-! ### drawn callers -/
/-- k rolls of one size -/
def rdN (d : Dice) (t : Int) : Nat → Dice
  | 0 => d
  | k + 1 => CM.rd (rdN d t k) t
theorem rdN_ok {n : Int} {d : Dice} {t : Int} (h : DOk n d) : ∀ k : Nat, DOk (n + k) (rdN d t k)
  | 0 => by rw [Int.natCast_zero, Int.add_zero]; exact h
  | k + 1 => (DOk.rd (t := t) (rdN_ok (t := t) h k)).up (by omega)
def truthOf (d : Dice) : List Int := (upI 12).filter fun x => decide (rv (rdN d 4 x.toNat) 4 = 0)
def drawsOf (d : Dice) : List Int := (List.range (rv d 8).toNat).map fun i => rv (rdN (CM.rd d 8) 12 i) 12
def seesOf (d : Dice) : List Int := usort (drawsOf d)
def seesD (d : Dice) : Dice := rdN (CM.rd d 8) 12 (rv d 8).toNat
def flagOf (truth sees : List Int) : Bool := !decide ((sees.filter fun x => decide (x ∈ truth)) = [])
def rowsAt (truth : List Int) (d : Dice) : Nat → List Clr × Dice
  | 0 => ([], d)
  | i + 1 => ((rowsAt truth d i).1 ++ [(seesOf (rowsAt truth d i).2, flagOf truth (seesOf (rowsAt truth d i).2))], seesD (rowsAt truth d i).2)
theorem rv8 (d : Dice) : 0 ≤ rv d 8 ∧ rv d 8 < 8 := ⟨rv0 (by decide), rv1 (by decide)⟩
theorem seesD_ok {n : Int} {d : Dice} (h : DOk n d) : DOk (n + 8) (seesD d) := by
  have h8 := rv8 d
  exact (rdN_ok (h.rd (t := 8)) _).up (by omega)
theorem rowsAt_ok {truth : List Int} {n : Int} {d : Dice} (h : DOk n d) : ∀ i : Nat, DOk (n + 8 * i) (rowsAt truth d i).2
  | 0 => h.up (by omega)
  | i + 1 => (seesD_ok (rowsAt_ok (truth := truth) h i)).up (by omega)
theorem usort_len : ∀ l : List Int, (usort l).length ≤ l.length
  | [] => Nat.le_refl _
  | x :: l => by
    have ih := usort_len l
    have : ∀ m : List Int, (insU x m).length ≤ m.length + 1 := by
      intro m
      induction m with
      | nil => exact Nat.le_refl _
      | cons y m ih =>
        unfold insU
        split
        · simp
        · split
          · simp
          · simp only [List.length_cons]; omega
    have := this (usort l)
    rw [usort, List.length_cons]
    omega
theorem ascS_of {ns : List Int} (h : ns.Pairwise (· < ·)) : ascS ns = true := by
  unfold ascS
  rw [List.all_eq_true]
  intro p hp
  obtain ⟨i, hi⟩ := List.mem_iff_getElem?.mp hp
  obtain ⟨h1, h2⟩ := List.getElem?_zip_eq_some.mp hi
  rw [List.getElem?_drop] at h2
  obtain ⟨a1, a2⟩ := List.getElem?_eq_some_iff.mp h1
  obtain ⟨b1, b2⟩ := List.getElem?_eq_some_iff.mp h2
  have := List.pairwise_iff_getElem.mp h i (1 + i) a1 b1 (by omega)
  rw [a2, b2] at this
  exact decide_eq_true this
theorem draws_in {d : Dice} {x : Int} (h : x ∈ drawsOf d) : 0 ≤ x ∧ x < 12 := by
  obtain ⟨i, _, rfl⟩ := List.mem_map.mp h
  exact ⟨rv0 (by decide), rv1 (by decide)⟩
theorem sees_seen (d : Dice) : seenOk (seesOf d) = true := by
  have h8 := rv8 d
  have hl : (drawsOf d).length ≤ 7 := by unfold drawsOf; rw [List.length_map, List.length_range]; omega
  have hu := usort_len (drawsOf d)
  unfold seenOk
  rw [Bool.and_eq_true, Bool.and_eq_true, decide_eq_true_eq, List.all_eq_true]
  refine ⟨by show ((usort (drawsOf d)).length : Int) ≤ 10; omega, fun x hx => ?_, ascS_of (usort_asc _)⟩
  have := draws_in (mem_usort.mp hx)
  unfold isIn
  simp
  omega
theorem rowsAt_len {truth : List Int} {d : Dice} : ∀ i, (rowsAt truth d i).1.length = i
  | 0 => rfl
  | i + 1 => by rw [rowsAt, List.length_append, rowsAt_len i]; rfl
theorem rowsAt_mem {truth : List Int} {d : Dice} : ∀ (i : Nat) (c : Clr), c ∈ (rowsAt truth d i).1 → seenOk c.1 = true ∧ c.2 = flagOf truth c.1
  | 0, c, h => by cases h
  | i + 1, c, h => by
    rcases List.mem_append.mp h with h | h
    · exact rowsAt_mem i c h
    · rw [List.mem_singleton.mp h]
      exact ⟨sees_seen _, rfl⟩
theorem truth_asc (d : Dice) : (truthOf d).Pairwise (· < ·) := (upI_asc 12).filter _
theorem truth_sub (d : Dice) : IsSub 0 12 12 (truthOf d) := by
  have hb : ∀ x ∈ truthOf d, 0 ≤ x ∧ x < 12 := fun x hx => by
    have := mem_upI.mp (List.mem_filter.mp hx).1
    omega
  refine ⟨truth_asc d, hb, ?_⟩
  have := asc_len (lo := 0) (hi := 12) (by decide) (truth_asc d) hb
  omega
/-- true callers are explained by the truth -/
theorem truth_every {d : Dice} {cs : List Clr} (h : ∀ c ∈ cs, c.2 = flagOf (truthOf d) c.1) : truthOf d ∈ everyOf cs := by
  refine List.mem_filter.mpr ⟨(mem_chs (by decide)).mpr (truth_sub d), List.all_eq_true.mpr fun c hc => ?_⟩
  rw [← ex_law]
  have e := h c hc
  rw [e]
  unfold flagOf
  cases c.1.filter fun x => decide (x ∈ truthOf d) <;> rfl
/-- the one at at tells the other thing -/
def bent (cs : List Clr) (i : Nat) : List Clr := cs.set i ((cs.getD i ([], false)).1, !(cs.getD i ([], false)).2)
def csOf (cs : List Clr) (d : Dice) (isTrue : Bool) : List Clr := if isTrue = true then cs else bent cs (rv d cs.length).toNat
theorem cs_ok {cs : List Clr} {d : Dice} {b : Bool} (h : cs.length ≤ 20) (h1 : ∀ c ∈ cs, seenOk c.1 = true) (hb : b = false → cs ≠ []) : CsOk (csOf cs d b) := by
  unfold csOf
  cases b with
  | true => exact ⟨h, h1⟩
  | false =>
    have hne := hb rfl
    have hl : 0 < cs.length := List.length_pos_iff.mpr hne
    have r0 := rv0 (d := d) (t := cs.length) (by omega)
    have r1 := rv1 (d := d) (t := cs.length) (by omega)
    have hi : (rv d cs.length).toNat < cs.length := by omega
    refine ⟨by show (bent cs _).length ≤ 20; unfold bent; rw [List.length_set]; exact h, fun c hc => ?_⟩
    rcases List.mem_or_eq_of_mem_set (show c ∈ cs.set _ _ from hc) with hc | rfl
    · exact h1 c hc
    · show seenOk (cs.getD _ ([], false)).1 = true
      rw [List.getD_eq_getElem?_getD, List.getElem?_eq_getElem hi]
      exact h1 _ (List.getElem_mem _)
theorem sure_law (due : List (List Int)) : ((upI 12).filter fun x => !decide (due = []) && decide ((due.filter fun r => !decide (x ∈ r)) = [])) = sureOf due := by
  unfold sureOf
  congr 1
  funext x
  congr 1
  rw [Bool.eq_iff_iff, decide_eq_true_eq, List.filter_eq_nil_iff, List.all_eq_true]
  simp
theorem able_law (due : List (List Int)) : ((upI 12).filter fun x => !decide ((due.filter fun r => decide (x ∈ r)) = [])) = ableOf due := by
  unfold ableOf
  congr 1
  funext x
  rw [Bool.eq_iff_iff, Bool.not_eq_true', decide_eq_false_iff_not, List.filter_eq_nil_iff, List.any_eq_true]
  simp
theorem cD_sh (cs : List Clr) : Shs 2 (cs.map cD) := shs_of fun d h => by
  obtain ⟨c, _, rfl⟩ := List.mem_map.mp h
  exact sh_tup (n := 1) (shs_cons (sh_tup (n := 0) (ints_shs c.1)) (shs_cons sh_bl shs_nil))
theorem okCs (cs : List Clr) : SeqAt.shaped (.list (cs.map cD)) = true := (sh_lst (n := 2) (cD_sh cs)).ok (by decide)
theorem eqv_csNil (cs : List Clr) : PyData.eqv (.list (cs.map cD)) (.list []) = decide (cs = []) := by
  cases cs with
  | nil => unfold PyData.eqv; simp [PyData.eqvAll]
  | cons c cs => unfold PyData.eqv; simp [PyData.eqvAll]
theorem ev_rollD {d : Dice} {n : Int} {s : S} {t : Int} {ta : TE} {j : Nat} {ov ov' : Option V} {d0 : Dice} {s1 : S} {x : Int} (hi : s.s[j]? = some (.res (lstR K ov (dl d0)))) (ha : Ev K ta s (.int t) s1) (hi1 : s1.s[j]? = some (.res (lstR K ov' (dl d)))) (hd : DOk n d) (hn : n < 1000000000) (h0 : 0 < t) (h1 : t < 1073741824) (hx : rv d t = x) :
    Ev K (tCall (spF K (R__law_roll K C T)) [] E (tCons (tVar j) (tCons ta tNil))) s (.int x) (s1.set j (.res (lstR K ov' (dl (CM.rd d t))))) :=
  (ev_callL hi (ea_cons ha ea_nil) hi1 fun v => .mk hd hn h0 h1).to (by rw [hx])
end CM

namespace K19
open PySem PySem.Spec PyProof.Rows L2 DL CM
variable {K : PySem.W.Frag} {C : Str → Addr} {T : List (Addr × Str)} {E : XK}
inductive R__law_right (K : PySem.W.Frag) (C : Str → Addr) (T : List (Addr × Str)) : FR
  | mk {v d} (hd : DOk 0 d) : R__law_right K C T ⟨[.res (lstR K (some v) (dl d))], T⟩ (.rt (.bool true) ⟨[.unk], T⟩)
inductive R_law (K : PySem.W.Frag) (C : Str → Addr) (T : List (Addr × Str)) : FR
  | mk {ns} (h : ns.length ≤ 63) : R_law K C T ⟨[.dat (scrD ns)], T⟩ (.rt (.bool true) ⟨[.dat (scrD ns)], T⟩)
def t__law_right (K : PySem.W.Frag) (C : Str → Addr) (T : List (Addr × Str)) (E : XK) : TS :=
  (tSeq (tAsg (tTup (tCons (tLc (iRng1 (tCons (tC (.int 12)) tNil)) (gName 15) (tTest (tOp (rD2 K eqOk eqD) (tCall (spF K (R__law_roll K C T)) [] E0 (tCons (tVar 0) (tCons (tC (.int 4)) tNil))) (tC (.int 0)))) (tVar 15) [15]) (tCons (tLst tNil) tNil))) (gTup K 2 (gCons (gName 1) (gCons (gName 2) gNil))))
    (tSeq (tFor (iRng1 (tCons (tCall (spF K (R__law_pick K C T)) [] E (tCons (tVar 0) (tCons (tLst (tCons (tC (.int 0)) (tCons (tC (.int 1)) (tCons (tC (.int 3)) (tCons (tC (.int 6)) (tCons (tC (.int 10)) (tCons (tC (.int 20)) tNil))))))) tNil))) tNil)) (gName 3) (tSeq (tAsg (tCB (rDn K seqOk tupD) (tCons (tSS K (tLc (iRng1 (tCons (tCall (spF K (R__law_roll K C T)) [] E (tCons (tVar 0) (tCons (tC (.int 8)) tNil))) tNil)) (gName 16) tYes (tCall (spF K (R__law_roll K C T)) [] E0 (tCons (tVar 0) (tCons (tC (.int 12)) tNil))) [16])) tNil)) (gName 4))
    (tDrop (tBM K "list" rAppend (tVar 2) (tCons (tTup (tCons (tVar 4) (tCons (tOp (rD2 K eqOk neD) (tLc (iSeq K (tVar 4)) (gName 15) (tTest (tOp (rD2 K inOk inD) (tVar 15) (tVar 1))) (tVar 15) [15]) (tLst tNil)) tNil))) tNil)))))
    (tSeq (tAsg (tOrV (tOp (rD2 K ordOk gtD) (tCall (spF K (R__law_roll K C T)) [] E (tCons (tVar 0) (tCons (tC (.int 3)) tNil))) (tC (.int 0))) (tOp (rD2 K eqOk eqD) (tVar 2) (tLst tNil))) (gName 5))
    (tSeq (tIfS (tNot (tB (tVar 5))) (tSeq (tAsg (tCall (spF K (R__law_roll K C T)) [] E (tCons (tVar 0) (tCons (tCB (rDn K lenOk lenD) (tCons (tVar 2) tNil)) tNil))) (gName 6))
    (tAsg (tTup (tCons (tOp (rD2 K ixOk ixD) (tOp (rD2 K ixOk ixD) (tVar 2) (tVar 6)) (tC (.int 0))) (tCons (tNotV (tOp (rD2 K ixOk ixD) (tOp (rD2 K ixOk ixD) (tVar 2) (tVar 6)) (tC (.int 1)))) tNil))) (gSub (tVar 2) (tVar 6) rSetL))) tNext)
    (tSeq (tAsg (tTup (tCons (tCB (rDn K seqOk tupD) (tCons (tVar 2) tNil)) (tCons (tCall (spF K (R__law_pick K C T)) [] E (tCons (tVar 0) (tCons (tLst (tCons (tC (.int 0)) (tCons (tC (.int 1)) (tCons (tC (.int 2)) (tCons (tC (.int 3)) (tCons (tC (.int 12)) tNil)))))) tNil))) tNil))) (gTup K 2 (gCons (gName 7) (gCons (gName 8) gNil))))
    (tSeq (tAsg (tLc (iSeq K (tCall (spF K (R__law_subsets K C T)) [] E (tCons (tC (.int 12)) (tCons (tC (.int 12)) tNil)))) (gName 14) (tB (tCall (spF K (R__law_explains K C T)) [] E0 (tCons (tVar 7) (tCons (tVar 14) tNil)))) (tVar 14) [14]) (gName 9))
    (tSeq (tAsg (tLc (iSeq K (tVar 9)) (gName 14) (tTest (tOp (rD2 K ordOk leD) (tCB (rDn K lenOk lenD) (tCons (tVar 14) tNil)) (tVar 8))) (tVar 14) [14]) (gName 10))
    (tSeq (tIfS (tOr (tTest (tOp (rD2 K eqOk neD) (tCB (rDl K seqOk itemsD) (tCons (tCall (spF K (R_blamed K C T)) [] E (tCons (tVar 7) (tCons (tVar 8) tNil))) tNil)) (tVar 10))) (tTest (tOp (rD2 K eqOk neD) (tCB (rDl K seqOk itemsD) (tCons (tCallM (spF K (R_blamed K C T)) 0 2 [1, 0] E tNil (tCons (tVar 8) (tCons (tVar 7) tNil))) tNil)) (tVar 10)))) (tRet (tC (.bl false))) tNext)
    (tSeq (tIfS (tAnd (tB (tVar 5)) (tTest (tOp (rD2 K inOk ninD) (tCB (rDn K seqOk tupD) (tCons (tVar 1) tNil)) (tVar 9)))) (tRet (tC (.bl false))) tNext)
    (tSeq (tAsg (tLc (iRng1 (tCons (tC (.int 12)) tNil)) (gName 15) (tAnd (tTest (tOp (rD2 K eqOk neD) (tVar 10) (tLst tNil))) (tTest (tOp (rD2 K eqOk eqD) (tLc (iSeq K (tVar 10)) (gName 14) (tTest (tOp (rD2 K inOk ninD) (tVar 15) (tVar 14))) (tVar 14) [14]) (tLst tNil)))) (tVar 15) [15]) (gName 11))
    (tSeq (tAsg (tLc (iRng1 (tCons (tC (.int 12)) tNil)) (gName 15) (tTest (tOp (rD2 K eqOk neD) (tLc (iSeq K (tVar 10)) (gName 14) (tTest (tOp (rD2 K inOk inD) (tVar 15) (tVar 14))) (tVar 14) [14]) (tLst tNil))) (tVar 15) [15]) (gName 12))
    (tSeq (tIfS (tOr (tTest (tOp (rD2 K eqOk neD) (tCB (rDl K seqOk itemsD) (tCons (tCall (spF K (R_surely K C T)) [] E (tCons (tVar 7) (tCons (tVar 8) tNil))) tNil)) (tVar 11))) (tOr (tTest (tOp (rD2 K eqOk neD) (tCB (rDl K seqOk itemsD) (tCons (tCall (spF K (R_possibly K C T)) [] E (tCons (tVar 7) (tCons (tVar 8) tNil))) tNil)) (tVar 12))) (tTest (tOp (rD2 K eqOk neD) (tCallM (spF K (R_surely K C T)) 0 2 [1, 0] E tNil (tCons (tVar 8) (tCons (tVar 7) tNil))) (tCB (rDn K seqOk tupD) (tCons (tVar 11) tNil)))))) (tRet (tC (.bl false))) tNext)
    (tSeq (tAsg (tIf (tTest (tOp (rD2 K eqOk neD) (tVar 9) (tLst tNil))) (tCB (rDn K mmOk minD) (tCons (tLc (iSeq K (tVar 9)) (gName 14) tYes (tCB (rDn K lenOk lenD) (tCons (tVar 14) tNil)) [14]) tNil)) (tC .non)) (gName 13))
    (tRet (tAndV (tOp (rD2 K eqOk eqD) (tCall (spF K (R_least_blamed K C T)) [] E (tCons (tVar 7) tNil)) (tVar 13)) (tAndV (tOp (rD2 K eqOk eqD) (tCallM (spF K (R_least_blamed K C T)) 0 1 [0] E tNil (tCons (tVar 7) tNil)) (tVar 13)) (tAndV (tOp (rD2 K eqOk eqD) (tCallM (spF K (R_possibly K C T)) 0 2 [1, 0] E tNil (tCons (tVar 8) (tCons (tVar 7) tNil))) (tCB (rDn K seqOk tupD) (tCons (tVar 12) tNil))) (tCall (spF K (R__law_refuses K C T)) [] E (tCons (tVar 0) tNil)))))))))))))))))))
def t_law (K : PySem.W.Frag) (C : Str → Addr) (T : List (Addr × Str)) (E : XK) : TS :=
  (tSeq (tFor (iRng1 (tCons (tCB (rDn K mmOk maxD) (tCons (tC (.int 1)) (tCons (tCB (rDn K mmOk minD) (tCons (tC (.int 2)) (tCons (tCB (rDn K lenOk lenD) (tCons (tVar 0) tNil)) tNil))) tNil))) tNil)) (gName 1) (tIfS (tNot (tB (tCall (spF K (R__law_right K C T)) [] E (tCons (tCall (spF K (R__law_dice K C T)) [] E (tCons (tVar 0) (tCons (tVar 1) tNil))) tNil)))) (tRet (tC (.bl false))) tNext))
    (tRet (tAndV (tOp (rD2 K eqOk eqD) (tCall (spF K (R_blamed K C T)) [] E (tCons (tTup tNil) (tCons (tC (.int 0)) tNil))) (tTup (tCons (tTup tNil) tNil))) (tOp (rD2 K isOk isD) (tCall (spF K (R_least_blamed K C T)) [] E (tCons (tTup (tCons (tTup (tCons (tTup tNil) (tCons (tC (.bl true)) tNil))) tNil)) tNil)) (tC .non)))))
/-- the drawn truth -/
theorem ev_truth {v : V} {d : Dice} {n : Int} {g} (hd : DOk n d) (hn : n < 1000) :
    Ev K (tLc (iRng1 (tCons (tC (.int 12)) tNil)) (gName 15) (tTest (tOp (rD2 K eqOk eqD) (tCall (spF K (R__law_roll K C T)) [] E0 (tCons (tVar 0) (tCons (tC (.int 4)) tNil))) (tC (.int 0)))) (tVar 15) [15])
      ⟨[.res (lstR K (some v) (dl d)), .unk, .unk, .unk, .unk, .unk, .unk, .unk, .unk, .unk, .unk, .unk, .unk, .unk, .unk, .unk, .unk], g⟩ (.list ((truthOf d).map PyData.int))
      ⟨[.res (lstR K (some v) (dl (rdN d 4 12))), .unk, .unk, .unk, .unk, .unk, .unk, .unk, .unk, .unk, .unk, .unk, .unk, .unk, .unk, .unk, .unk], g⟩ := by
  have key := ev_lcG (K := K) (te := tVar 15) (tt := tTest (tOp (rD2 K eqOk eqD) (tCall (spF K (R__law_roll K C T)) [] E0 (tCons (tVar 0) (tCons (tC (.int 4)) tNil))) (tC (.int 0)))) (g := gName 15) (vs := [15]) (wi := iRng1 (tCons (tC (.int 12)) tNil))
    (s := ⟨[.res (lstR K (some v) (dl d)), .unk, .unk, .unk, .unk, .unk, .unk, .unk, .unk, .unk, .unk, .unk, .unk, .unk, .unk, .unk, .unk], g⟩) (s1 := ⟨[.res (lstR K (some v) (dl d)), .unk, .unk, .unk, .unk, .unk, .unk, .unk, .unk, .unk, .unk, .unk, .unk, .unk, .unk, .unk, .unk], g⟩) (s' := ⟨[.res (lstR K (some v) (dl (rdN d 4 12))), .unk, .unk, .unk, .unk, .unk, .unk, .unk, .unk, .unk, .unk, .unk, .unk, .unk, .unk, .unk, .unk], g⟩)
    (ds := (upI 12).map PyData.int) (fun i => ⟨[.res (lstR K (some v) (dl (rdN d 4 i))), .unk, .unk, .unk, .unk, .unk, .unk, .unk, .unk, .unk, .unk, .unk, .unk, .unk, .unk, .unk, .unk], g⟩)
    (fun i => (((upI 12).take i).filter fun x => decide (rv (rdN d 4 x.toNat) 4 = 0)).map PyData.int) (by rw [← upTo_upI]; exact it_r1 (n := 12) ev_int (by decide)) (Fo.le (by walk_at "fo")) rfl (le_size (by decide)) (fun i y hy => ?_) (Bk.back (by walk_at "bk") rfl)
  · refine key.to ?_
    rw [List.length_map, List.take_length]
    rfl
  · rw [List.getElem?_map] at hy
    have hi : i < 12 := by
      by_cases c : i < 12
      · exact c
      · rw [List.getElem?_eq_none (by rw [upI_len]; omega)] at hy; cases hy
    have hx : (upI 12)[i]? = some (i : Int) := by
      unfold upI
      rw [List.getElem?_map, List.getElem?_range hi]; rfl
    rw [hx] at hy
    cases hy
    have tk : (upI 12).take (i + 1) = (upI 12).take i ++ [(i : Int)] := by rw [List.take_add_one, hx]; rfl
    have hok := rdN_ok (t := 4) hd i
    have r0 := rv0 (d := rdN d 4 i) (t := 4) (by decide)
    refine ⟨_, decide (rv (rdN d 4 i) 4 = 0), ⟨[.res (lstR K (some v) (dl (rdN d 4 (i + 1)))), .unk, .unk, .unk, .unk, .unk, .unk, .unk, .unk, .unk, .unk, .unk, .unk, .unk, .unk, .dat (.int (i : Int)), .unk], g⟩, by walk_at "tv", ?_, fun hb => ⟨.int (i : Int), ⟨[.res (lstR K (some v) (dl (rdN d 4 (i + 1)))), .unk, .unk, .unk, .unk, .unk, .unk, .unk, .unk, .unk, .unk, .unk, .unk, .unk, .unk, .dat (.int (i : Int)), .unk], g⟩, ?_, ?_, ?_⟩, fun hb => ⟨?_, ?_⟩⟩
    · walk_at "d"
      exact et_test (ev_eqI (ev_rollD (j := 0) (s1 := ⟨[.res (lstR K (some v) (dl (rdN d 4 i))), .unk, .unk, .unk, .unk, .unk, .unk, .unk, .unk, .unk, .unk, .unk, .unk, .unk, .unk, .dat (.int (i : Int)), .unk], g⟩) rfl ev_int rfl hok (by omega) (by decide) (by decide) rfl) ev_int)
    · walk_at "d"
      exact ev_var rfl
    · walk_at "w"
      exact Fo.le (by walk_at "fo")
    · show (((upI 12).take (i + 1)).filter _).map _ = _
      rw [tk, List.filter_append, List.map_append, List.filter_cons]
      simp only [Int.toNat_natCast, hb]
      rfl
    · walk_at "w"
      exact Fo.le (by walk_at "fo")
    · show (((upI 12).take (i + 1)).filter _).map _ = _
      rw [tk, List.filter_append, List.map_append, List.filter_cons]
      simp only [Int.toNat_natCast, hb]
      simp
end K19

namespace K19
open PySem PySem.Spec PyProof.Rows L2 DL CM
variable {K : PySem.W.Frag} {C : Str → Addr} {T : List (Addr × Str)} {E : XK}
theorem ev_sees {v : V} {d : Dice} {n : Int} {tr rs : List D} {x : D} {g} (hd : DOk n d) (hn : n < 1000) :
    Ev K (tCB (rDn K seqOk tupD) (tCons (tSS K (tLc (iRng1 (tCons (tCall (spF K (R__law_roll K C T)) [] E (tCons (tVar 0) (tCons (tC (.int 8)) tNil))) tNil)) (gName 16) tYes (tCall (spF K (R__law_roll K C T)) [] E0 (tCons (tVar 0) (tCons (tC (.int 12)) tNil))) [16])) tNil))
      ⟨[.res (lstR K (some v) (dl d)), .dat (.list tr), .res (lstR K none rs), .dat x, .unk, .unk, .unk, .unk, .unk, .unk, .unk, .unk, .unk, .unk, .unk, .unk, .unk], g⟩ (rowD (seesOf d))
      ⟨[.res (lstR K (some v) (dl (seesD d))), .dat (.list tr), .res (lstR K none rs), .dat x, .unk, .unk, .unk, .unk, .unk, .unk, .unk, .unk, .unk, .unk, .unk, .unk, .unk], g⟩ := by
  have h8 := rv8 d
  apply ev_tupL
  refine ev_ssL (ns := CM.drawsOf d) ?_ (by unfold CM.drawsOf; rw [List.length_map, List.length_range]; omega)
  have key := ev_lcG (K := K) (te := tCall (spF K (R__law_roll K C T)) [] E0 (tCons (tVar 0) (tCons (tC (.int 12)) tNil))) (tt := tYes) (g := gName 16) (vs := [16]) (wi := iRng1 (tCons (tCall (spF K (R__law_roll K C T)) [] E (tCons (tVar 0) (tCons (tC (.int 8)) tNil))) tNil))
    (s := ⟨[.res (lstR K (some v) (dl d)), .dat (.list tr), .res (lstR K none rs), .dat x, .unk, .unk, .unk, .unk, .unk, .unk, .unk, .unk, .unk, .unk, .unk, .unk, .unk], g⟩) (s1 := ⟨[.res (lstR K (some v) (dl (CM.rd d 8))), .dat (.list tr), .res (lstR K none rs), .dat x, .unk, .unk, .unk, .unk, .unk, .unk, .unk, .unk, .unk, .unk, .unk, .unk, .unk], g⟩) (s' := ⟨[.res (lstR K (some v) (dl (seesD d))), .dat (.list tr), .res (lstR K none rs), .dat x, .unk, .unk, .unk, .unk, .unk, .unk, .unk, .unk, .unk, .unk, .unk, .unk, .unk], g⟩)
    (ds := DL.upTo 0 (rv d 8).toNat) (fun i => ⟨[.res (lstR K (some v) (dl (rdN (CM.rd d 8) 12 i))), .dat (.list tr), .res (lstR K none rs), .dat x, .unk, .unk, .unk, .unk, .unk, .unk, .unk, .unk, .unk, .unk, .unk, .unk, .unk], g⟩)
    (fun i => ((List.range i).map fun j => rv (rdN (CM.rd d 8) 12 j) 12).map PyData.int)
    (it_r1 (n := rv d 8) (ev_rollD (j := 0) (s1 := ⟨[.res (lstR K (some v) (dl d)), .dat (.list tr), .res (lstR K none rs), .dat x, .unk, .unk, .unk, .unk, .unk, .unk, .unk, .unk, .unk, .unk, .unk, .unk, .unk], g⟩) rfl ev_int rfl hd (by omega) (by decide) (by decide) rfl) (by omega)) (Fo.le (by walk_at "fo")) rfl (by rw [upTo_len]; exact le_size (by omega)) (fun i y hy => ?_) ?_
  · refine key.to ?_
    rw [upTo_len]
    rfl
  · obtain ⟨hi, rfl⟩ := upTo_get hy
    have hok := rdN_ok (t := 12) (hd.rd (t := 8)) i
    refine ⟨_, true, _, by walk_at "tv", et_yes, fun _ => ⟨.int (rv (rdN (CM.rd d 8) 12 i) 12), ⟨[.res (lstR K (some v) (dl (rdN (CM.rd d 8) 12 (i + 1)))), .dat (.list tr), .res (lstR K none rs), .dat x, .unk, .unk, .unk, .unk, .unk, .unk, .unk, .unk, .unk, .unk, .unk, .unk, .dat (.int (0 + (i : Int)))], g⟩, ?_, ?_, ?_⟩, fun z => nomatch z⟩
    · walk_at "d"
      exact ev_rollD (j := 0) (s1 := ⟨[.res (lstR K (some v) (dl (rdN (CM.rd d 8) 12 i))), .dat (.list tr), .res (lstR K none rs), .dat x, .unk, .unk, .unk, .unk, .unk, .unk, .unk, .unk, .unk, .unk, .unk, .unk, .dat (.int (0 + (i : Int)))], g⟩) rfl ev_int rfl hok (by omega) (by decide) (by decide) rfl
    · walk_at "w"
      exact Fo.le (by walk_at "fo")
    · rw [List.range_succ, List.map_append, List.map_append]; rfl
  · rw [upTo_len]
    exact Bk.back (by walk_at "bk") rfl
end K19

namespace K19
open PySem PySem.Spec PyProof.Rows L2 DL CM
variable {K : PySem.W.Frag} {C : Str → Addr} {T : List (Addr × Str)} {E : XK}
theorem okMin (ns : List Int) : SeqAt.shaped (minN ns) = true := by
  unfold minN
  split
  · exact (sh_non (n := 0)).ok (by decide)
  · exact okInt _
theorem eqv_min (ns : List Int) : PyData.eqv (minN ns) (minN ns) = true := eqv_refl _ (flat_of_canLay (SeqAt.canLay_of_shaped (okMin ns)))
theorem many_is {d : Dice} : ∃ m : Nat, pick d [.int 0, .int 1, .int 3, .int 6, .int 10, .int 20] = .int (m : Int) ∧ m ≤ 20 := by
  have h := pick_mem (d := d) (xs := [.int 0, .int 1, .int 3, .int 6, .int 10, .int 20]) (List.cons_ne_nil _ _)
  generalize pick d [.int 0, .int 1, .int 3, .int 6, .int 10, .int 20] = y at h ⊢
  simp only [List.mem_cons, List.not_mem_nil, or_false] at h
  rcases h with h | h | h | h | h | h <;> subst h
  · exact ⟨0, rfl, by decide⟩
  · exact ⟨1, rfl, by decide⟩
  · exact ⟨3, rfl, by decide⟩
  · exact ⟨6, rfl, by decide⟩
  · exact ⟨10, rfl, by decide⟩
  · exact ⟨20, rfl, by decide⟩
theorem most_is {d : Dice} : ∃ m : Int, pick d [.int 0, .int 1, .int 2, .int 3, .int 12] = .int m ∧ 0 ≤ m ∧ m ≤ 12 := by
  have h := pick_mem (d := d) (xs := [.int 0, .int 1, .int 2, .int 3, .int 12]) (List.cons_ne_nil _ _)
  generalize pick d [.int 0, .int 1, .int 2, .int 3, .int 12] = y at h ⊢
  simp only [List.mem_cons, List.not_mem_nil, or_false] at h
  rcases h with h | h | h | h | h <;> subst h <;> exact ⟨_, rfl, by decide, by decide⟩
theorem every_len {cs : List Clr} : (everyOf cs).length ≤ 4096 := Nat.le_trans (List.length_filter_le _ _) (chs_len12 (by decide))
theorem ev_pickD {d : Dice} {n : Int} {s : S} {xs : List D} {ta : TE} {j : Nat} {ov ov' : Option V} {d0 : Dice} {s1 : S} {x : D} (hi : s.s[j]? = some (.res (lstR K ov (dl d0)))) (ha : Ev K ta s (.list xs) s1) (hi1 : s1.s[j]? = some (.res (lstR K ov' (dl d)))) (hd : DOk n d) (hn : n < 1000000000) (h0 : xs ≠ []) (h1 : xs.length < 1073741824) (hx : pick d xs = x) :
    Ev K (tCall (spF K (R__law_pick K C T)) [] E (tCons (tVar j) (tCons ta tNil))) s x (s1.set j (.res (lstR K ov' (dl (CM.rd d xs.length))))) :=
  (ev_callL hi (ea_cons ha ea_nil) hi1 fun v => .mk hd hn h0 h1).to hx
/-- the part that draws: the callers, how many at most -/
theorem rd__law_right {v : V} {d : Dice} (hd : DOk 0 d) : Run K E (t__law_right K C T E) ⟨[.res (lstR K (some v) (dl d)), .unk, .unk, .unk, .unk, .unk, .unk, .unk, .unk, .unk, .unk, .unk, .unk, .unk, .unk, .unk, .unk], T⟩ (.rt (.bool true) ⟨[.unk, .unk, .unk, .unk, .unk, .unk, .unk, .unk, .unk, .unk, .unk, .unk, .unk, .unk, .unk, .unk, .unk], T⟩) := by
  apply run_seq
  · apply run_tupX2
    apply ex_dat
    · exact ev_truth hd (by decide)
    apply ex_res
    · exact eo_lst ea_nil (by walk_at "side")
    exact ex_nil
  walk_at "d"
  have hd1 : DOk 12 (rdN d 4 12) := rdN_ok hd 12
  obtain ⟨many, hp, hm⟩ := many_is (d := rdN d 4 12)
  have htr := fun cs (h : ∀ c ∈ cs, c.2 = flagOf (truthOf d) c.1) => truth_every (d := d) (cs := cs) h
  have htl := truth_sub d
  generalize truthOf d = tr at *
  generalize rdN d 4 12 = D1 at *
  apply run_seq
  · refine run_for (s1 := ⟨[.res (lstR K (some v) (dl (CM.rd D1 (6 : Nat)))), .dat (.list (tr.map PyData.int)), .res (lstR K none []), .unk, .unk, .unk, .unk, .unk, .unk, .unk, .unk, .unk, .unk, .unk, .unk, .unk, .unk], T⟩)
      (fun i => ⟨[.res (lstR K (some v) (dl (rowsAt tr (CM.rd D1 (6 : Nat)) i).2)), .dat (.list (tr.map PyData.int)), .res (lstR K none ((rowsAt tr (CM.rd D1 (6 : Nat)) i).1.map cD)), .unk, .unk, .unk, .unk, .unk, .unk, .unk, .unk, .unk, .unk, .unk, .unk, .unk, .unk], T⟩)
      (it_r1 (n := (many : Int)) (ev_pickD (j := 0) (s1 := ⟨[.res (lstR K (some v) (dl D1)), .dat (.list (tr.map PyData.int)), .res (lstR K none []), .unk, .unk, .unk, .unk, .unk, .unk, .unk, .unk, .unk, .unk, .unk, .unk, .unk, .unk], T⟩) rfl (by walk_at "ev") rfl hd1 (by decide) (List.cons_ne_nil _ _) (by decide) hp) (by omega)) (Fo.le (by walk_at "fo")) fun i y hy => ?_
    obtain ⟨hi, rfl⟩ := upTo_get hy
    rw [Int.toNat_natCast] at hi
    have hok := rowsAt_ok (truth := tr) (hd1.rd (t := (6 : Nat))) i
    have hlen := rowsAt_len (truth := tr) (d := CM.rd D1 (6 : Nat)) i
    rw [rowsAt]
    generalize rowsAt tr (CM.rd D1 (6 : Nat)) i = r at *
    refine ⟨_, tg_name, ?_⟩
    walk_at "d"
    refine run_seq (run_asg (ev_sees hok (by omega))) ?_
    walk_at "d"
    have hsl := seen_len (sees_seen r.2)
    apply run_le
    · apply run_append
      · rfl
      · apply ev_tup
        · apply ea_cons
          · exact ev_var rfl
          apply ea_cons
          · refine ev_neIL (ms := []) (ev_lcE PyData.int unI unI_int (fun x => decide (x ∈ tr)) PyData.int (it_seq (ev_var rfl) rfl) (le_size (by omega)) (by walk_at "nr") fun x hx => ⟨_, by walk_at "tv", ?_, ?_, fun _ => ?_⟩) (ev_lst ea_nil (by walk_at "side"))
            · walk_at "w"
              exact Fo.le (by walk_at "fo")
            · walk_at "w"
              exact et_test (ev_inIL (ev_var rfl) (ev_var rfl))
            · walk_at "w"
              exact ev_var rfl
          exact ea_nil
        · exact le_size (by simp)
      · rfl
      · rw [List.length_map, hlen]
        exact Nat.lt_of_lt_of_le (by omega : i < 10000) (le_size (by decide))
    · walk_at "d"
      rw [List.map_append]
      exact Fo.le (by walk_at "fo")
  walk_at "d"
  rw [upTo_len, Int.toNat_natCast]
  have hD : DOk 300 (rowsAt tr (CM.rd D1 (6 : Nat)) many).2 := (rowsAt_ok (truth := tr) (hd1.rd (t := (6 : Nat))) many).up (by omega)
  have hL := rowsAt_len (truth := tr) (d := CM.rd D1 (6 : Nat)) many
  have hM := rowsAt_mem (truth := tr) (d := CM.rd D1 (6 : Nat)) many
  generalize rowsAt tr (CM.rd D1 (6 : Nat)) many = r at *
  obtain ⟨rs, D2⟩ := r
  dsimp only at hD hL hM ⊢
  -- is_true
  have hist : Ev K (tOrV (tOp (rD2 K ordOk gtD) (tCall (spF K (R__law_roll K C T)) [] E (tCons (tVar 0) (tCons (tC (.int 3)) tNil))) (tC (.int 0))) (tOp (rD2 K eqOk eqD) (tVar 2) (tLst tNil))) ⟨[.res (lstR K (some v) (dl D2)), .dat (.list (tr.map PyData.int)), .res (lstR K none (rs.map cD)), .unk, .unk, .unk, .unk, .unk, .unk, .unk, .unk, .unk, .unk, .unk, .unk, .unk, .unk], T⟩ (.bool (decide (0 < rv D2 3) || decide (rs = []))) ⟨[.res (lstR K (some v) (dl (CM.rd D2 3))), .dat (.list (tr.map PyData.int)), .res (lstR K none (rs.map cD)), .unk, .unk, .unk, .unk, .unk, .unk, .unk, .unk, .unk, .unk, .unk, .unk, .unk, .unk], T⟩ := by
    refine ev_or (ev_gtI (ev_rollD (j := 0) (s1 := ⟨[.res (lstR K (some v) (dl D2)), .dat (.list (tr.map PyData.int)), .res (lstR K none (rs.map cD)), .unk, .unk, .unk, .unk, .unk, .unk, .unk, .unk, .unk, .unk, .unk, .unk, .unk, .unk], T⟩) rfl ev_int rfl hD (by decide) (by decide) (by decide) rfl) ev_int) fun _ => ?_
    refine Ev.to (ev_op1 (i := 2) (ok := eqOk) (f := eqD) (ov := none) (ov' := none) (ds := rs.map cD) (ds' := rs.map cD) rfl (ev_lst ea_nil (by walk_at "side")) rfl ⟨okCs rs, okCs []⟩) ?_
    show PyData.bool (PyData.eqv (.list (rs.map cD)) (.list [])) = _
    rw [eqv_csNil]
  refine run_seq (run_asg hist) ?_
  walk_at "d"
  have hne : (decide (0 < rv D2 3) || decide (rs = [])) = false → rs ≠ [] := fun h e => by subst e; simp at h
  generalize (decide (0 < rv D2 3) || decide (rs = [])) = b at *
  have hD3 : DOk 301 (CM.rd D2 3) := hD.rd
  generalize CM.rd D2 3 = D3 at *
  have hcs : CsOk (csOf rs D3 b) := cs_ok (by omega) (fun c hc => (hM c hc).1) hne
  have htrue : b = true → tr ∈ everyOf (csOf rs D3 b) := fun hb => by
    subst hb
    exact htr _ fun c hc => (hM c hc).2
  -- if not is_true
  have hD4 : DOk 302 (if b = true then D3 else CM.rd D3 (rs.length : Nat)) := by
    cases b with
    | true => exact hD3.up (by decide)
    | false => exact hD3.rd
  apply run_seq (s1 := ⟨[.res (lstR K (some v) (dl (if b = true then D3 else CM.rd D3 (rs.length : Nat)))), .dat (.list (tr.map PyData.int)), .res (lstR K none ((csOf rs D3 b).map cD)), .unk, .unk, .dat (.bool b), .unk, .unk, .unk, .unk, .unk, .unk, .unk, .unk, .unk, .unk, .unk], T⟩)
  · cases b with
    | true => exact run_no (EvT.to (et_not (et_B (ev_var rfl))) rfl) run_next
    | false =>
      have hl : 0 < rs.length := List.length_pos_iff.mpr (hne rfl)
      have r0 := rv0 (d := D3) (t := (rs.length : Nat)) (by omega)
      have r1 := rv1 (d := D3) (t := (rs.length : Nat)) (by omega)
      obtain ⟨at_, hat⟩ : ∃ a : Nat, rv D3 (rs.length : Nat) = a := ⟨_, (Int.toNat_of_nonneg r0).symm⟩
      have hal : at_ < rs.length := by omega
      have hget : atI (rs.map cD) (at_ : Int) = some (cD (rs.getD at_ ([], false))) := by
        refine DL.atI_nat ?_
        rw [List.getElem?_map, List.getD_eq_getElem?_getD, List.getElem?_eq_getElem hal]; rfl
      apply run_yes (EvT.to (et_not (et_B (ev_var rfl))) rfl)
      refine run_seq (run_asg (ev_rollD (j := 0) (s1 := ⟨[.res (lstR K (some v) (dl D3)), .dat (.list (tr.map PyData.int)), .res (lstR K none (rs.map cD)), .unk, .unk, .dat (.bool false), .unk, .unk, .unk, .unk, .unk, .unk, .unk, .unk, .unk, .unk, .unk], T⟩) rfl (Ev.to (ev_lenO rfl) (by rw [List.length_map])) rfl hD3 (by decide) (by omega) (by omega) hat)) ?_
      walk_at "d"
      apply run_le
      · refine run_setL (s1 := ⟨[.res (lstR K (some v) (dl (CM.rd D3 (rs.length : Nat)))), .dat (.list (tr.map PyData.int)), .res (lstR K none (rs.map cD)), .unk, .unk, .dat (.bool false), .dat (.int (at_ : Int)), .unk, .unk, .unk, .unk, .unk, .unk, .unk, .unk, .unk, .unk], T⟩) (s2 := ⟨[.res (lstR K (some v) (dl (CM.rd D3 (rs.length : Nat)))), .dat (.list (tr.map PyData.int)), .res (lstR K none (rs.map cD)), .unk, .unk, .dat (.bool false), .dat (.int (at_ : Int)), .unk, .unk, .unk, .unk, .unk, .unk, .unk, .unk, .unk, .unk], T⟩) (i := 2) (ov := none) (ov' := none) (ds := rs.map cD) (ds' := rs.map cD) (k := (at_ : Int)) (j := at_) (d := cD ((rs.getD at_ ([], false)).1, !(rs.getD at_ ([], false)).2)) ?_ rfl (ev_var rfl) rfl ?_
        · exact ev_tup (ea_cons (ev_ixT (ev_ixO rfl (ev_var rfl) rfl hget) ev_int rfl) (ea_cons (ev_not (ev_ixT (ev_ixO rfl (ev_var rfl) rfl hget) ev_int rfl)) ea_nil)) (le_size (by simp))
        · rw [List.length_map]
          unfold ixN
          rw [if_pos (by omega), Int.toNat_natCast]
          first | rfl | exact if_pos (by omega)
      · walk_at "d"
        have e : csOf rs D3 false = rs.set at_ ((rs.getD at_ ([], false)).1, !(rs.getD at_ ([], false)).2) := by
          show bent rs (rv D3 rs.length).toNat = _
          rw [hat, Int.toNat_natCast]; rfl
        rw [e, List.map_set]
        exact Fo.le (by walk_at "fo")
  walk_at "d"
  generalize (if b = true then D3 else CM.rd D3 (rs.length : Nat)) = D4 at *
  generalize csOf rs D3 b = cs at *
  obtain ⟨m, hpm, hm0, hm1⟩ := most_is (d := D4)
  have hD5 : DOk 303 (CM.rd D4 (5 : Nat)) := hD4.rd
  apply run_seq
  · apply run_asgT
    · apply ev_tup
      · apply ea_cons
        · exact ev_tupO rfl
        apply ea_cons
        · exact ev_pickD (j := 0) (s1 := ⟨[.res (lstR K (some v) (dl D4)), .dat (.list (tr.map PyData.int)), .res (lstR K none (cs.map cD)), .unk, .unk, .dat (.bool b), .unk, .unk, .unk, .unk, .unk, .unk, .unk, .unk, .unk, .unk, .unk], T⟩) rfl (by walk_at "ev") rfl hD4 (by decide) (List.cons_ne_nil _ _) (by decide) hpm
        exact ea_nil
      · exact le_size (by simp)
    · walk_at "tg"
  walk_at "d"
  rw [show (CM.rd D4 ([PyData.int 0, PyData.int 1, PyData.int 2, PyData.int 3, PyData.int 12].length : Nat)) = CM.rd D4 (5 : Nat) from rfl]
  generalize CM.rd D4 (5 : Nat) = D5 at *
  have hel := every_len (cs := cs)
  have hdue := due_bl (cs := cs) hm0 hm1
  have hbl := bl_len (cs := cs) (m := m)
  have hev := every_bl cs
  have nilL : ∀ {s : S}, Ev K (tLst tNil) s (.list (([] : List Int).map PyData.int)) s := fun {s} => ev_lst ea_nil (by walk_at "side")
  have nilR : ∀ {s : S}, Ev K (tLst tNil) s (.list (([] : List (List Int)).map rowD)) s := fun {s} => ev_lst ea_nil (by walk_at "side")
  -- every
  have hsubs : ∀ {s : S}, s.g = T → Ev K (tCall (spF K (R__law_subsets K C T)) [] E (tCons (tC (.int 12)) (tCons (tC (.int 12)) tNil))) s (.list ((chs 12 12 12).map rowD)) s := fun {s} hg => ev_call (ea_cons ev_int (ea_cons ev_int ea_nil)) (.mk (n := 12) (m := 12) (by decide) (by decide))
  have hcl : (chs 12 12 12).length ≤ 4096 := chs_len12 (by decide)
  refine run_seq (run_asg (ev_lcE rowD unrow unrow_rowD (exPl cs) rowD (it_seq (hsubs rfl) rfl) (le_size (by omega)) (by walk_at "nr") fun r hr => ⟨_, by walk_at "tv", ?_, ?_, fun _ => ?_⟩)) ?_
  · walk_at "w"
    exact Fo.le (by walk_at "fo")
  · walk_at "w"
    have hr' := ((mem_chs (by decide)).mp hr)
    exact et_B (ev_call (ea_cons (ev_var rfl) (ea_cons (ev_var rfl) ea_nil)) (.mk hcs (by have := hr'.2.2; omega)))
  · walk_at "w"
    exact ev_var rfl
  walk_at "d"
  change Run K E _ ⟨[.res (lstR K (some v) (dl D5)), .dat (.list (tr.map PyData.int)), .res (lstR K none (cs.map cD)), .unk, .unk, .dat (.bool b), .unk, .dat (.tuple (cs.map cD)), .dat (.int m), .dat (.list ((everyOf cs).map rowD)), .unk, .unk, .unk, .unk, .unk, .unk, .unk], T⟩ _
  -- due
  refine run_seq (run_asg (ev_lcE rowD unrow unrow_rowD (fun r => decide ((r.length : Int) ≤ m)) rowD (it_seq (ev_var rfl) rfl) (le_size (by omega)) (by walk_at "nr") fun r hr => ⟨_, by walk_at "tv", ?_, ?_, fun _ => ?_⟩)) ?_
  · walk_at "w"
    exact Fo.le (by walk_at "fo")
  · walk_at "w"
    exact et_test (ev_leI (ev_lenTI (ev_var rfl)) (ev_var rfl))
  · walk_at "w"
    exact ev_var rfl
  walk_at "d"
  change Run K E _ ⟨[.res (lstR K (some v) (dl D5)), .dat (.list (tr.map PyData.int)), .res (lstR K none (cs.map cD)), .unk, .unk, .dat (.bool b), .unk, .dat (.tuple (cs.map cD)), .dat (.int m), .dat (.list ((everyOf cs).map rowD)), .dat (.list ((dueOf cs m).map rowD)), .unk, .unk, .unk, .unk, .unk, .unk], T⟩ _
  rw [hdue]
  generalize hevr : everyOf cs = ev at *
  generalize hduer : blOf cs m = due at *
  -- blamed
  apply run_seq
  · apply run_no
    · refine EvT.to (et_or (a := false) (b := false) (EvT.to (et_test (ev_neRL (xs := due) (ys := due) (ev_lstT (ev_call (ea_cons (ev_var rfl) (ea_cons (ev_var rfl) ea_nil)) ?_)) (ev_var rfl))) (by simp)) fun _ => EvT.to (et_test (ev_neRL (xs := due) (ys := due) (ev_lstT (ev_callM ea_nil (ea_cons (ev_var rfl) (ea_cons (ev_var rfl) ea_nil)) rfl rfl (by decide) ?_)) (ev_var rfl))) (by simp)) rfl
      · rw [← hduer]; exact .ok hcs hm0 hm1
      · rw [← hduer]; exact .ok hcs hm0 hm1
    · exact run_next
  walk_at "d"
  -- the truth is among them
  apply run_seq
  · apply run_no
    · refine EvT.to (et_and (a := b) (b := false) (et_B (ev_var rfl)) fun hb => EvT.to (et_test (ev_ninRL (ns := tr) (xs := ev) (ev_tupL (ev_var rfl)) (ev_var rfl))) ?_) (Bool.and_false b)
      rw [decide_eq_true (htrue hb)]; rfl
    · exact run_next
  walk_at "d"
  have it12 : ∀ {s : S}, IterD K (iRng1 (tCons (tC (.int 12)) tNil)) s ((upI 12).map PyData.int) s := fun {s} => by
    rw [← upTo_upI]
    exact it_r1 (n := 12) ev_int (by decide)
  -- sure
  refine run_seq (run_asg (d := .list ((sureOf due).map PyData.int)) (Ev.to (ev_lcE PyData.int unI unI_int (fun x => !decide (due = []) && decide ((due.filter fun r => !decide (x ∈ r)) = [])) PyData.int it12 (le_size (by decide)) (by walk_at "nr") fun x hx => ⟨_, by walk_at "tv", ?_, ?_, fun _ => ?_⟩) (by rw [sure_law]))) ?_
  · walk_at "w"
    exact Fo.le (by walk_at "fo")
  · walk_at "w"
    refine et_and (et_test (ev_neRL (ys := []) (ev_var rfl) nilR)) fun _ => et_test (ev_eqRL (ys := []) (ev_lcE rowD unrow unrow_rowD (fun r => !decide (x ∈ r)) rowD (it_seq (ev_var rfl) rfl) (le_size (by omega)) (by walk_at "nr") fun r hr => ⟨_, by walk_at "tv", ?_, ?_, fun _ => ?_⟩) nilR)
    · walk_at "w"
      exact Fo.le (by walk_at "fo")
    · walk_at "w"
      exact et_test (ev_ninIT (ev_var rfl) (ev_var rfl))
    · walk_at "w"
      exact ev_var rfl
  · walk_at "w"
    exact ev_var rfl
  walk_at "d"
  -- able
  refine run_seq (run_asg (d := .list ((ableOf due).map PyData.int)) (Ev.to (ev_lcE PyData.int unI unI_int (fun x => !decide ((due.filter fun r => decide (x ∈ r)) = [])) PyData.int it12 (le_size (by decide)) (by walk_at "nr") fun x hx => ⟨_, by walk_at "tv", ?_, ?_, fun _ => ?_⟩) (by rw [able_law]))) ?_
  · walk_at "w"
    exact Fo.le (by walk_at "fo")
  · walk_at "w"
    refine et_test (ev_neRL (ys := []) (ev_lcE rowD unrow unrow_rowD (fun r => decide (x ∈ r)) rowD (it_seq (ev_var rfl) rfl) (le_size (by omega)) (by walk_at "nr") fun r hr => ⟨_, by walk_at "tv", ?_, ?_, fun _ => ?_⟩) nilR)
    · walk_at "w"
      exact Fo.le (by walk_at "fo")
    · walk_at "w"
      exact et_test (ev_inIT (ev_var rfl) (ev_var rfl))
    · walk_at "w"
      exact ev_var rfl
  · walk_at "w"
    exact ev_var rfl
  walk_at "d"
  -- surely, possibly
  apply run_seq
  · apply run_no
    · refine EvT.to (et_or (a := false) (b := false) (EvT.to (et_test (ev_neIL (ns := sureOf due) (ms := sureOf due) (ev_lstT (ev_call (ea_cons (ev_var rfl) (ea_cons (ev_var rfl) ea_nil)) ?_)) (ev_var rfl))) (by simp))
        fun _ => EvT.to (et_or (a := false) (b := false) (EvT.to (et_test (ev_neIL (ns := ableOf due) (ms := ableOf due) (ev_lstT (ev_call (ea_cons (ev_var rfl) (ea_cons (ev_var rfl) ea_nil)) ?_)) (ev_var rfl))) (by simp))
        fun _ => EvT.to (et_test (ev_neIT (ns := sureOf due) (ms := sureOf due) (ev_callM ea_nil (ea_cons (ev_var rfl) (ea_cons (ev_var rfl) ea_nil)) rfl rfl (by decide) ?_) (ev_tupL (ev_var rfl)))) (by simp)) rfl) rfl
      · rw [← hduer]; exact .ok hcs hm0 hm1
      · rw [← hduer]; exact .ok hcs hm0 hm1
      · rw [← hduer]; exact .ok hcs hm0 hm1
    · exact run_next
  walk_at "d"
  -- least
  have hlens : ∀ (s : S), s.s[9]? = some (.dat (.list (ev.map rowD))) → NoRes s [14] → (∀ y, SLe (((s.wipe [14]).set 14 y).wipe [14]) (s.wipe [14])) → True := fun _ _ _ _ => trivial
  refine run_seq (run_asg (d := minN (lensOf ev)) (ev_ifP (et_test (ev_neRL (ys := []) (ev_var rfl) nilR)) (fun hb => ?_) fun hb => ?_)) ?_
  · have hne : ev ≠ [] := by simpa using hb
    refine Ev.to (ev_minL (ms := lensOf ev) (Ev.to (ev_lcMap rowD unrow unrow_rowD (fun r => .int (r.length : Int)) (it_seq (ev_var rfl) rfl) (le_size (by omega)) (by walk_at "nr") fun r hr => ⟨_, by walk_at "tv", ?_, ?_⟩) (by unfold lensOf; rw [List.map_map]; rfl)) (by unfold lensOf; simpa using hne)) ?_
    · walk_at "w"
      exact Fo.le (by walk_at "fo")
    · walk_at "w"
      exact ev_lenTI (ev_var rfl)
    · unfold minN
      rw [if_neg (by unfold lensOf; simpa using hne)]
  · have he : ev = [] := by simpa using hb
    subst he
    exact ev_non
  walk_at "d"
  have hleast : ∀ g, R_least_blamed K C T ⟨[.dat (.tuple (cs.map cD))], g⟩ (.rt (minN (lensOf ev)) ⟨[.dat (.tuple (cs.map cD))], g⟩) := fun g => by
    have := R_least_blamed.ok (K := K) (C := C) (T := T) (cs := cs) (g := g) hcs
    rwa [← hev] at this
  apply run_retle
  · apply ev_andT
    · exact Ev.to (ev_eqT (ev_call (ea_cons (ev_var rfl) ea_nil) (hleast _)) (ev_var rfl) ⟨okMin _, okMin _⟩) (congrArg PyData.bool (eqv_min _))
    apply ev_andT
    · exact Ev.to (ev_eqT (ev_callM ea_nil (ea_cons (ev_var rfl) ea_nil) rfl rfl (by decide) (hleast _)) (ev_var rfl) ⟨okMin _, okMin _⟩) (congrArg PyData.bool (eqv_min _))
    apply ev_andT
    · refine Ev.to (ev_eqIT (ns := ableOf due) (ms := ableOf due) (ev_callM ea_nil (ea_cons (ev_var rfl) (ea_cons (ev_var rfl) ea_nil)) rfl rfl (by decide) ?_) (ev_tupL (ev_var rfl))) (by simp)
      rw [← hduer]; exact .ok hcs hm0 hm1
    · exact ev_callL rfl ea_nil rfl fun v => .mk hD5 (by decide)
  · walk_at "d"
    exact Fo.le (by walk_at "fo")
/-! ### the law -/
theorem bl_nil : blOf [] 0 = [[]] := by
  refine sasc_unique (bl_sasc _ (by decide)) (List.pairwise_singleton _ _) fun r => ?_
  rw [bl_mem (by decide), List.mem_singleton]
  constructor
  · rintro ⟨⟨_, _, h⟩, _⟩
    exact List.eq_nil_of_length_eq_zero (by omega)
  · rintro rfl
    exact ⟨isSub_nil (by decide), rfl⟩
theorem bl_none : blOf [([], true)] 12 = [] := by
  refine List.eq_nil_iff_forall_not_mem.mpr fun r hr => ?_
  have h := ((bl_mem (by decide)).mp hr).2
  have : exPl [([], true)] r = false := by
    unfold exPl
    simp
  rw [this] at h
  cases h
theorem rd_law {ns : List Int} (h : ns.length ≤ 63) : Run K E (t_law K C T E) ⟨[.dat (scrD ns), .unk], T⟩ (.rt (.bool true) ⟨[.unk, .unk], T⟩) := by
  apply run_seq
  · refine run_for (s1 := ⟨[.dat (scrD ns), .unk], T⟩) (ds := DL.upTo 0 (max 1 (min 2 (ns.length : Int))).toNat) (fun i => ⟨[.dat (scrD ns), .unk], T⟩) ?_ (SLe.refl _) fun i d hd => ?_
    · exact it_rng1 (n := max 1 (min 2 (ns.length : Int))) (ea_cons (ev_maxI ev_int (ev_minI ev_int (ev_lenS (ev_var rfl)))) ea_nil) (by omega)
    · obtain ⟨hi, rfl⟩ := upTo_get hd
      refine ⟨_, tg_name, ?_⟩
      walk_at "d"
      refine run_le (s1 := ⟨[.dat (scrD ns), .dat (.int (0 + (i : Int)))], T⟩) ?_ (Fo.le (by walk_at "fo"))
      · apply run_no
        · apply EvT.to
          · apply et_not
            apply et_B (b := true)
            apply ev_callOw
            · apply eo_call
              · walk_at "ea"
              · exact .mk (by omega)
            · exact ea_nil
            · intro v
              exact .mk (dice0_ok _ _)
          · rfl
        · exact run_next
  have nilT : ∀ {s : S}, Ev K (tTup tNil) s (.tuple []) s := fun {s} => ev_tup ea_nil (by walk_at "side")
  have hb : ∀ g, R_blamed K C T ⟨[.dat (.tuple []), .dat (.int 0)], g⟩ (.rt (.tuple (([[]] : List (List Int)).map rowD)) ⟨[.dat (.tuple []), .dat (.int 0)], g⟩) := fun g => by
    have := R_blamed.ok (K := K) (C := C) (T := T) (cs := []) (m := 0) (g := g) ⟨by simp, fun c h => by simp at h⟩ (by decide) (by decide)
    rwa [bl_nil] at this
  have hl : ∀ g, R_least_blamed K C T ⟨[.dat (.tuple [.tuple [.tuple [], .bool true]])], g⟩ (.rt .none ⟨[.dat (.tuple [.tuple [.tuple [], .bool true]])], g⟩) := fun g => by
    have := R_least_blamed.ok (K := K) (C := C) (T := T) (cs := [([], true)]) (g := g) ⟨by simp, fun c h => by rw [List.mem_singleton.mp h]; decide⟩
    rw [bl_none] at this
    exact this
  apply run_retle
  · apply ev_andT
    · exact Ev.to (ev_eqRT (xs := [[]]) (ys := [[]]) (ev_call (ea_cons nilT (ea_cons ev_int ea_nil)) (hb _)) (ev_tup (ea_cons nilT ea_nil) (by walk_at "side"))) (by simp)
    · exact ev_isN (ev_call (ea_cons (ev_tup (ea_cons (ev_tup (ea_cons nilT (ea_cons ev_bl ea_nil)) (by walk_at "side")) ea_nil) (by walk_at "side")) ea_nil) (hl _)) ev_non
  · walk_at "d"
    exact Fo.le (by walk_at "fo")
end K19

namespace K19
open PySem PySem.Spec PyProof.Rows L2 DL CM LamX
def top (i : Nat) : Stmt := PySem.Challenge.pw_streetslit_k19_whole_callers.main.body.getD i (.Pass ⟨0, 0, 0, 0⟩)
abbrev s_is_integer : Stmt := top 4
abbrev s_is_in : Stmt := top 5
abbrev s_is_tuple_of : Stmt := top 6
abbrev s_are_at_most : Stmt := top 7
abbrev s_is_ascending : Stmt := top 8
abbrev s_demand : Stmt := top 9
abbrev s_choices_of : Stmt := top 10
abbrev s_are_seen : Stmt := top 15
abbrev s_are_callers : Stmt := top 16
abbrev s_explains : Stmt := top 17
abbrev s_blamed_of : Stmt := top 18
abbrev s_blamed : Stmt := top 19
abbrev s_surely : Stmt := top 20
abbrev s_possibly : Stmt := top 21
abbrev s_least_blamed : Stmt := top 22
abbrev s__law_dice : Stmt := top 24
abbrev s__law_roll : Stmt := top 25
abbrev s__law_pick : Stmt := top 26
abbrev s__law_refused : Stmt := top 27
abbrev s__law_subsets : Stmt := top 28
abbrev s__law_explains : Stmt := top 29
abbrev s__law_refuses : Stmt := top 30
abbrev s__law_right : Stmt := top 31
abbrev s_law : Stmt := top 32
theorem sc_is_integer : FnScope ["value"] ["value"] (defScope s_is_integer) := ⟨rfl, rfl, rfl, by decide +kernel, rfl, by decide +kernel, by decide +kernel⟩
theorem sc_is_in : FnScope ["value", "low", "high"] ["value", "low", "high"] (defScope s_is_in) := ⟨rfl, rfl, rfl, by decide +kernel, rfl, by decide +kernel, by decide +kernel⟩
theorem sc_is_tuple_of : FnScope ["value", "many"] ["value", "many"] (defScope s_is_tuple_of) := ⟨rfl, rfl, rfl, by decide +kernel, rfl, by decide +kernel, by decide +kernel⟩
theorem sc_are_at_most : FnScope ["value", "many"] ["value", "many"] (defScope s_are_at_most) := ⟨rfl, rfl, rfl, by decide +kernel, rfl, by decide +kernel, by decide +kernel⟩
theorem sc_is_ascending : FnScope ["values", "one", "two"] ["values"] (defScope s_is_ascending) := ⟨rfl, rfl, rfl, by decide +kernel, rfl, by decide +kernel, by decide +kernel⟩
theorem sc_demand : FnScope ["is_good", "name"] ["is_good", "name"] (defScope s_demand) := ⟨rfl, rfl, rfl, by decide +kernel, rfl, by decide +kernel, by decide +kernel⟩
theorem sc_choices_of : FnScope ["many", "most", "found", "at", "more", "row"] ["many", "most"] (defScope s_choices_of) := ⟨rfl, rfl, rfl, by decide +kernel, rfl, by decide +kernel, by decide +kernel⟩
theorem sc_are_seen : FnScope ["value", "street"] ["value"] (defScope s_are_seen) := ⟨rfl, rfl, rfl, by decide +kernel, rfl, by decide +kernel, by decide +kernel⟩
theorem sc_are_callers : FnScope ["value", "caller"] ["value"] (defScope s_are_callers) := ⟨rfl, rfl, rfl, by decide +kernel, rfl, by decide +kernel, by decide +kernel⟩
theorem sc_explains : FnScope ["callers", "some", "sees", "is_dark", "street"] ["callers", "some"] (defScope s_explains) := ⟨rfl, rfl, rfl, by decide +kernel, rfl, by decide +kernel, by decide +kernel⟩
theorem sc_blamed_of : FnScope ["callers", "most", "lit", "free", "rows", "sees", "is_dark", "street", "row", "at"] ["callers", "most"] (defScope s_blamed_of) := ⟨rfl, rfl, rfl, by decide +kernel, rfl, by decide +kernel, by decide +kernel⟩
theorem sc_blamed : FnScope ["callers", "most"] ["callers", "most"] (defScope s_blamed) := ⟨rfl, rfl, rfl, by decide +kernel, rfl, by decide +kernel, by decide +kernel⟩
theorem sc_surely : FnScope ["callers", "most", "rows", "street", "row"] ["callers", "most"] (defScope s_surely) := ⟨rfl, rfl, rfl, by decide +kernel, rfl, by decide +kernel, by decide +kernel⟩
theorem sc_possibly : FnScope ["callers", "most", "rows", "street", "row"] ["callers", "most"] (defScope s_possibly) := ⟨rfl, rfl, rfl, by decide +kernel, rfl, by decide +kernel, by decide +kernel⟩
theorem sc_least_blamed : FnScope ["callers", "rows", "row"] ["callers"] (defScope s_least_blamed) := ⟨rfl, rfl, rfl, by decide +kernel, rfl, by decide +kernel, by decide +kernel⟩
theorem sc__law_dice : FnScope ["script", "spot", "own", "mixed", "cell"] ["script", "spot"] (defScope s__law_dice) := ⟨rfl, rfl, rfl, by decide +kernel, rfl, by decide +kernel, by decide +kernel⟩
theorem sc__law_roll : FnScope ["dice", "total", "found"] ["dice", "total"] (defScope s__law_roll) := ⟨rfl, rfl, rfl, by decide +kernel, rfl, by decide +kernel, by decide +kernel⟩
theorem sc__law_pick : FnScope ["dice", "things"] ["dice", "things"] (defScope s__law_pick) := ⟨rfl, rfl, rfl, by decide +kernel, rfl, by decide +kernel, by decide +kernel⟩
theorem sc__law_refused : FnScope ["call", "e"] ["call"] (defScope s__law_refused) := ⟨rfl, rfl, rfl, by decide +kernel, rfl, by decide +kernel, by decide +kernel⟩
theorem sc__law_subsets : FnScope ["many", "most", "rows", "at", "row"] ["many", "most"] (defScope s__law_subsets) := ⟨rfl, rfl, rfl, by decide +kernel, rfl, by decide +kernel, by decide +kernel⟩
theorem sc__law_explains : FnScope ["callers", "some", "sees", "is_dark", "street"] ["callers", "some"] (defScope s__law_explains) := ⟨rfl, rfl, rfl, by decide +kernel, rfl, by decide +kernel, by decide +kernel⟩
theorem sc__law_refuses : FnScope ["dice", "told", "bad", "odd"] ["dice"] (defScope s__law_refuses) := ⟨rfl, rfl, rfl, by decide +kernel, rfl, by decide +kernel, by decide +kernel⟩
theorem sc__law_right : FnScope ["dice", "truth", "rows", "turn", "sees", "is_true", "at", "callers", "most", "every", "due", "sure", "able", "least", "some", "street", "one"] ["dice"] (defScope s__law_right) := ⟨rfl, rfl, rfl, by decide +kernel, rfl, by decide +kernel, by decide +kernel⟩
theorem sc_law : FnScope ["script", "spot"] ["script"] (defScope s_law) := ⟨rfl, rfl, rfl, by decide +kernel, rfl, by decide +kernel, by decide +kernel⟩
structure Ad where
  C : Str → Addr
  I_BadArgument : Addr
  a_is_integer : Addr
  fd_is_integer : FuncData
  a_is_in : Addr
  fd_is_in : FuncData
  a_is_tuple_of : Addr
  fd_is_tuple_of : FuncData
  a_are_at_most : Addr
  fd_are_at_most : FuncData
  a_is_ascending : Addr
  fd_is_ascending : FuncData
  a_demand : Addr
  fd_demand : FuncData
  a_choices_of : Addr
  fd_choices_of : FuncData
  a_are_seen : Addr
  fd_are_seen : FuncData
  a_are_callers : Addr
  fd_are_callers : FuncData
  a_explains : Addr
  fd_explains : FuncData
  a_blamed_of : Addr
  fd_blamed_of : FuncData
  a_blamed : Addr
  fd_blamed : FuncData
  a_surely : Addr
  fd_surely : FuncData
  a_possibly : Addr
  fd_possibly : FuncData
  a_least_blamed : Addr
  fd_least_blamed : FuncData
  a__law_dice : Addr
  fd__law_dice : FuncData
  a__law_roll : Addr
  fd__law_roll : FuncData
  a__law_pick : Addr
  fd__law_pick : FuncData
  a__law_refused : Addr
  fd__law_refused : FuncData
  a__law_subsets : Addr
  fd__law_subsets : FuncData
  a__law_explains : Addr
  fd__law_explains : FuncData
  a__law_refuses : Addr
  fd__law_refuses : FuncData
  a__law_right : Addr
  fd__law_right : FuncData
  a_law : Addr
  fd_law : FuncData
  c__law_refuses : Addr
  p__law_refuses : Addr
  v_MOST_STREET : Value
  v_MOST_CALLERS : Value
  v_MOST_SEEN : Value
def Ad.T (A : Ad) : List (Addr × Str) := [(A.p__law_refuses, ("_law_refuses.<locals>." : Str) ++ "<lambda>")]
structure Tx (P : Program) (K : PySem.W.Frag) (mg : Str → Option Value) (A : Ad) : Prop where
  x_BadArgument : BX.ExTxt P K mg "BadArgument" "name" (A.C "BadArgument") A.I_BadArgument
  te_BadArgument : PySem.W.exmOne K (.ref (A.C "BadArgument")) (.ref (A.C "BadArgument")) = some true
  n_abs : mg "abs" = none
  n_all : mg "all" = none
  n_any : mg "any" = none
  n_bool : mg "bool" = none
  n_int : mg "int" = none
  n_isinstance : mg "isinstance" = none
  n_len : mg "len" = none
  n_list : mg "list" = none
  n_max : mg "max" = none
  n_min : mg "min" = none
  n_range : mg "range" = none
  n_reversed : mg "reversed" = none
  n_set : mg "set" = none
  n_sorted : mg "sorted" = none
  n_tuple : mg "tuple" = none
  n_zip : mg "zip" = none
  g_is_integer : mg "is_integer" = some (.ref A.a_is_integer)
  F_is_integer : Fun K "is_integer" "is_integer" s_is_integer A.a_is_integer A.fd_is_integer
  b_is_integer : L2.Binds K A.fd_is_integer ["value"] []
  g_is_in : mg "is_in" = some (.ref A.a_is_in)
  F_is_in : Fun K "is_in" "is_in" s_is_in A.a_is_in A.fd_is_in
  b_is_in : L2.Binds K A.fd_is_in ["value", "low", "high"] []
  g_is_tuple_of : mg "is_tuple_of" = some (.ref A.a_is_tuple_of)
  F_is_tuple_of : Fun K "is_tuple_of" "is_tuple_of" s_is_tuple_of A.a_is_tuple_of A.fd_is_tuple_of
  b_is_tuple_of : L2.Binds K A.fd_is_tuple_of ["value", "many"] []
  g_are_at_most : mg "are_at_most" = some (.ref A.a_are_at_most)
  F_are_at_most : Fun K "are_at_most" "are_at_most" s_are_at_most A.a_are_at_most A.fd_are_at_most
  b_are_at_most : L2.Binds K A.fd_are_at_most ["value", "many"] []
  g_is_ascending : mg "is_ascending" = some (.ref A.a_is_ascending)
  F_is_ascending : Fun K "is_ascending" "is_ascending" s_is_ascending A.a_is_ascending A.fd_is_ascending
  b_is_ascending : L2.Binds K A.fd_is_ascending ["values"] []
  g_demand : mg "demand" = some (.ref A.a_demand)
  F_demand : Fun K "demand" "demand" s_demand A.a_demand A.fd_demand
  b_demand : L2.Binds K A.fd_demand ["is_good", "name"] []
  g_choices_of : mg "choices_of" = some (.ref A.a_choices_of)
  F_choices_of : Fun K "choices_of" "choices_of" s_choices_of A.a_choices_of A.fd_choices_of
  b_choices_of : L2.Binds K A.fd_choices_of ["many", "most"] []
  g_are_seen : mg "are_seen" = some (.ref A.a_are_seen)
  F_are_seen : Fun K "are_seen" "are_seen" s_are_seen A.a_are_seen A.fd_are_seen
  b_are_seen : L2.Binds K A.fd_are_seen ["value"] []
  g_are_callers : mg "are_callers" = some (.ref A.a_are_callers)
  F_are_callers : Fun K "are_callers" "are_callers" s_are_callers A.a_are_callers A.fd_are_callers
  b_are_callers : L2.Binds K A.fd_are_callers ["value"] []
  g_explains : mg "explains" = some (.ref A.a_explains)
  F_explains : Fun K "explains" "explains" s_explains A.a_explains A.fd_explains
  b_explains : L2.Binds K A.fd_explains ["callers", "some"] []
  g_blamed_of : mg "blamed_of" = some (.ref A.a_blamed_of)
  F_blamed_of : Fun K "blamed_of" "blamed_of" s_blamed_of A.a_blamed_of A.fd_blamed_of
  b_blamed_of : L2.Binds K A.fd_blamed_of ["callers", "most"] []
  g_blamed : mg "blamed" = some (.ref A.a_blamed)
  F_blamed : Fun K "blamed" "blamed" s_blamed A.a_blamed A.fd_blamed
  b_blamed : L2.Binds K A.fd_blamed ["callers", "most"] []
  g_surely : mg "surely" = some (.ref A.a_surely)
  F_surely : Fun K "surely" "surely" s_surely A.a_surely A.fd_surely
  b_surely : L2.Binds K A.fd_surely ["callers", "most"] []
  g_possibly : mg "possibly" = some (.ref A.a_possibly)
  F_possibly : Fun K "possibly" "possibly" s_possibly A.a_possibly A.fd_possibly
  b_possibly : L2.Binds K A.fd_possibly ["callers", "most"] []
  g_least_blamed : mg "least_blamed" = some (.ref A.a_least_blamed)
  F_least_blamed : Fun K "least_blamed" "least_blamed" s_least_blamed A.a_least_blamed A.fd_least_blamed
  b_least_blamed : L2.Binds K A.fd_least_blamed ["callers"] []
  g__law_dice : mg "_law_dice" = some (.ref A.a__law_dice)
  F__law_dice : Fun K "_law_dice" "_law_dice" s__law_dice A.a__law_dice A.fd__law_dice
  b__law_dice : L2.Binds K A.fd__law_dice ["script", "spot"] []
  g__law_roll : mg "_law_roll" = some (.ref A.a__law_roll)
  F__law_roll : Fun K "_law_roll" "_law_roll" s__law_roll A.a__law_roll A.fd__law_roll
  b__law_roll : L2.Binds K A.fd__law_roll ["dice", "total"] []
  g__law_pick : mg "_law_pick" = some (.ref A.a__law_pick)
  F__law_pick : Fun K "_law_pick" "_law_pick" s__law_pick A.a__law_pick A.fd__law_pick
  b__law_pick : L2.Binds K A.fd__law_pick ["dice", "things"] []
  g__law_refused : mg "_law_refused" = some (.ref A.a__law_refused)
  F__law_refused : Fun K "_law_refused" "_law_refused" s__law_refused A.a__law_refused A.fd__law_refused
  b__law_refused : L2.Binds K A.fd__law_refused ["call"] []
  g__law_subsets : mg "_law_subsets" = some (.ref A.a__law_subsets)
  F__law_subsets : Fun K "_law_subsets" "_law_subsets" s__law_subsets A.a__law_subsets A.fd__law_subsets
  b__law_subsets : L2.Binds K A.fd__law_subsets ["many", "most"] []
  g__law_explains : mg "_law_explains" = some (.ref A.a__law_explains)
  F__law_explains : Fun K "_law_explains" "_law_explains" s__law_explains A.a__law_explains A.fd__law_explains
  b__law_explains : L2.Binds K A.fd__law_explains ["callers", "some"] []
  g__law_refuses : mg "_law_refuses" = some (.ref A.a__law_refuses)
  F__law_refuses : FunC K "_law_refuses" "_law_refuses" s__law_refuses A.a__law_refuses A.fd__law_refuses A.c__law_refuses
  b__law_refuses : L2.Binds K A.fd__law_refuses ["dice"] []
  g__law_right : mg "_law_right" = some (.ref A.a__law_right)
  F__law_right : Fun K "_law_right" "_law_right" s__law_right A.a__law_right A.fd__law_right
  b__law_right : L2.Binds K A.fd__law_right ["dice"] []
  g_law : mg "law" = some (.ref A.a_law)
  F_law : Fun K "law" "law" s_law A.a_law A.fd_law
  b_law : L2.Binds K A.fd_law ["script"] []
  kw_blamed_0_most_callers : KwB K A.fd_blamed ["callers", "most"] ["most", "callers"] 0 [1, 0]
  kw_surely_0_most_callers : KwB K A.fd_surely ["callers", "most"] ["most", "callers"] 0 [1, 0]
  kw_possibly_0_most_callers : KwB K A.fd_possibly ["callers", "most"] ["most", "callers"] 0 [1, 0]
  kw_least_blamed_0_callers : KwB K A.fd_least_blamed ["callers"] ["callers"] 0 [0]
  c_MOST_STREET : mg "MOST_STREET" = some A.v_MOST_STREET
  r_MOST_STREET : RelV (.int 11) A.v_MOST_STREET
  c_MOST_CALLERS : mg "MOST_CALLERS" = some A.v_MOST_CALLERS
  r_MOST_CALLERS : RelV (.int 20) A.v_MOST_CALLERS
  c_MOST_SEEN : mg "MOST_SEEN" = some A.v_MOST_SEEN
  r_MOST_SEEN : RelV (.int 10) A.v_MOST_SEEN
structure TBs (base : Heap) (mg : Str → Option Value) (A : Ad) : Prop where
  _law_refuses : TabB base mg A.c__law_refuses A.p__law_refuses
structure Dif (A : Ad) : Prop where
  d : A.T.Pairwise fun x y => x.1 ≠ y.1
section
variable {P : Program} {w : World} {K : PySem.W.Frag} {mg : Str → Option Value} {base : Heap} {A : Ad}
theorem ok_is_integer (T : Tx P K mg A) (TBs : TBs base mg A ∧ Dif A) : FnOk P w K mg base (L2.CX P w) 1 A.a_is_integer A.fd_is_integer ["value"] (spF K (R_is_integer K A.C A.T)) := by
  refine T.F_is_integer.okX sc_is_integer (fun vs H Q E h => spf_len (by rintro _ _ ⟨⟩ <;> rfl) h) (fun cdv Ar outer s H vs Q E hr h => ⟨t_is_integer K A.C A.T E, ?_, ?_⟩)
  · exact (pss_one (ps_ret (pe_and (pe_callB call_isi (by rfl) T.n_isinstance (by decide +kernel) (pa_cons (pv 0) (pa_cons (pe_bltn (v := .ty "int") (by rfl) T.n_int (by decide +kernel) rfl) pa_nil))) (pe_one (pe_not (pe_callB call_isi (by rfl) T.n_isinstance (by decide +kernel) (pa_cons (pv 0) (pa_cons (pe_bltn (v := .ty "bool") (by rfl) T.n_bool (by decide +kernel) rfl) pa_nil))))))))
  · refine run_bodyS (n := 1) (by decide) (by rintro _ _ ⟨⟩ <;> rfl) h fun s o hR hv hE => ?_
    obtain ⟨v0, rfl⟩ := len1 hv
    cases hR with
    | mk h => exact ⟨_, rd_is_integer h, .rt (Lv.leave (by walk_at "lv") rfl)⟩
theorem ok_is_in (T : Tx P K mg A) (TBs : TBs base mg A ∧ Dif A) : FnOk P w K mg base (L2.CX P w) 2 A.a_is_in A.fd_is_in ["value", "low", "high"] (spF K (R_is_in K A.C A.T)) := by
  refine T.F_is_in.okX sc_is_in (fun vs H Q E h => spf_len (by rintro _ _ ⟨⟩ <;> rfl) h) (fun cdv Ar outer s H vs Q E hr h => ⟨t_is_in K A.C A.T E, ?_, ?_⟩)
  · exact (pss_one (ps_ret (pe_and (pe_call (ok_is_integer T TBs) (hr.mono (by decide)) (by rfl) T.g_is_integer T.F_is_integer.kp T.b_is_integer .nil (pass_e (takes_of rfl rfl rfl rfl)) (pa_cons (pv 0) pa_nil)) (pe_one (pe_chain op_leU op_leU (pv 1) (pv 0) (pv 2))))))
  · refine run_bodyS (n := 3) (by decide) (by rintro _ _ ⟨⟩ <;> rfl) h fun s o hR hv hE => ?_
    obtain ⟨v0, v1, v2, rfl⟩ := len3 hv
    cases hR with
    | mk h => exact ⟨_, rd_is_in h, .rt (Lv.leave (by walk_at "lv") rfl)⟩
theorem ok_is_tuple_of (T : Tx P K mg A) (TBs : TBs base mg A ∧ Dif A) : FnOk P w K mg base (L2.CX P w) 1 A.a_is_tuple_of A.fd_is_tuple_of ["value", "many"] (spF K (R_is_tuple_of K A.C A.T)) := by
  refine T.F_is_tuple_of.okX sc_is_tuple_of (fun vs H Q E h => spf_len (by rintro _ _ ⟨⟩ <;> rfl) h) (fun cdv Ar outer s H vs Q E hr h => ⟨t_is_tuple_of K A.C A.T E, ?_, ?_⟩)
  · exact (pss_one (ps_ret (pe_and (pe_callB call_isi (by rfl) T.n_isinstance (by decide +kernel) (pa_cons (pv 0) (pa_cons (pe_bltn (v := .ty "tuple") (by rfl) T.n_tuple (by decide +kernel) rfl) pa_nil))) (pe_one (pe_cmpR (op_eqU hr.units) (pe_callB call_lenU (by rfl) T.n_len (by decide +kernel) (pa_cons (pv 0) pa_nil)) (pv 1) (nomark _))))))
  · refine run_bodyS (n := 2) (by decide) (by rintro _ _ ⟨⟩ <;> rfl) h fun s o hR hv hE => ?_
    obtain ⟨v0, v1, rfl⟩ := len2 hv
    cases hR with
    | mk h => exact ⟨_, rd_is_tuple_of h, .rt (Lv.leave (by walk_at "lv") rfl)⟩
theorem ok_are_at_most (T : Tx P K mg A) (TBs : TBs base mg A ∧ Dif A) : FnOk P w K mg base (L2.CX P w) 1 A.a_are_at_most A.fd_are_at_most ["value", "many"] (spF K (R_are_at_most K A.C A.T)) := by
  refine T.F_are_at_most.okX sc_are_at_most (fun vs H Q E h => spf_len (by rintro _ _ ⟨⟩ <;> rfl) h) (fun cdv Ar outer s H vs Q E hr h => ⟨t_are_at_most K A.C A.T E, ?_, ?_⟩)
  · exact (pss_one (ps_ret (pe_and (pe_callB call_isi (by rfl) T.n_isinstance (by decide +kernel) (pa_cons (pv 0) (pa_cons (pe_bltn (v := .ty "tuple") (by rfl) T.n_tuple (by decide +kernel) rfl) pa_nil))) (pe_one (pe_cmpR op_leU (pe_callB call_lenU (by rfl) T.n_len (by decide +kernel) (pa_cons (pv 0) pa_nil)) (pv 1) (nomark _))))))
  · refine run_bodyS (n := 2) (by decide) (by rintro _ _ ⟨⟩ <;> rfl) h fun s o hR hv hE => ?_
    obtain ⟨v0, v1, rfl⟩ := len2 hv
    cases hR with
    | mk h => exact ⟨_, rd_are_at_most h, .rt (Lv.leave (by walk_at "lv") rfl)⟩
theorem ok_is_ascending (T : Tx P K mg A) (TBs : TBs base mg A ∧ Dif A) : FnOk P w K mg base (L2.CX P w) 1 A.a_is_ascending A.fd_is_ascending ["values"] (spF K (R_is_ascending K A.C A.T)) := by
  refine T.F_is_ascending.okX sc_is_ascending (fun vs H Q E h => spf_len (by rintro _ _ ⟨⟩ <;> rfl) h) (fun cdv Ar outer s H vs Q E hr h => ⟨t_is_ascending K A.C A.T E, ?_, ?_⟩)
  · exact (pss_one (ps_ret (pe_callB (call_allU rfl) (by rfl) T.n_all (by decide +kernel) (pa_cons (pe_lc (own := [("one", 1), ("two", 2)]) rfl sc_is_ascending.nd (pi_zipU (by rfl) T.n_zip (pa_cons (pv 0) (pa_cons (pe_slice sl_U (pv 0) (po_some pe_int) po_none) pa_nil))) (blkOk_by (own := [("one", 1), ("two", 2)]) (N := ["values", "one", "two"]) (sc := defScope s_is_ascending) (by decide +kernel)) (fun _ _ _ _ _ => (pg_tup rfl (pgs_cons (pg_name (i := 1) sc_is_ascending.nd rfl (Or.inl rfl)) (pgs_cons (pg_name (i := 2) sc_is_ascending.nd rfl (Or.inl rfl)) pgs_nil)))) (fun _ _ _ _ _ => pts_nil) (fun _ _ _ _ _ => (pe_cmpR (op_ltU hr.units0) (pv 1) (pv 2) (nomark _)))) pa_nil))))
  · refine run_bodyS (n := 1) (by decide) (by rintro _ _ ⟨⟩ <;> rfl) h fun s o hR hv hE => ?_
    obtain ⟨v0, rfl⟩ := len1 hv
    cases hR with
    | mk h => exact ⟨_, rd_is_ascending h, .rt (Lv.leave (by walk_at "lv") rfl)⟩
theorem ok_demand (T : Tx P K mg A) (TBs : TBs base mg A ∧ Dif A) : FnOk P w K mg base (L2.CX P w) 1 A.a_demand A.fd_demand ["is_good", "name"] (spF K (R_demand K A.C A.T)) := by
  refine T.F_demand.okX sc_demand (fun vs H Q E h => spf_len (by rintro _ _ ⟨⟩ <;> rfl) h) (fun cdv Ar outer s H vs Q E hr h => ⟨t_demand K A.C A.T E, ?_, ?_⟩)
  · exact (pss_one (ps_if (pt_not (pt_val (pv 0))) (pss_one (BX.ps_raiseX rfl T.x_BadArgument hr (takes_of rfl rfl rfl rfl) (pa_cons (pv 1) pa_nil))) pss_nil))
  · refine run_bodyS (n := 2) (by decide) (by rintro _ _ ⟨⟩ <;> rfl) h fun s o hR hv hE => ?_
    obtain ⟨v0, v1, rfl⟩ := len2 hv
    cases hR with
    | ok h => exact ⟨_, rd_demand_ok h, .nx (Lv.leave (by walk_at "lv") rfl)⟩
    | no h => exact ⟨_, rd_demand_no h, .ex (Lv.leave (by walk_at "lv") rfl)⟩
theorem ok_choices_of (T : Tx P K mg A) (TBs : TBs base mg A ∧ Dif A) : FnOk P w K mg base (L2.CX P w) 1 A.a_choices_of A.fd_choices_of ["many", "most"] (spF K (R_choices_of K A.C A.T)) := by
  refine T.F_choices_of.okX sc_choices_of (fun vs H Q E h => spf_len (by rintro _ _ ⟨⟩ <;> rfl) h) (fun cdv Ar outer s H vs Q E hr h => ⟨t_choices_of K A.C A.T E, ?_, ?_⟩)
  · exact (pss_cons (ps_set (i := 2) sc_choices_of.nd rfl (by first | exact Or.inl rfl | exact Or.inr rfl) (pe_lst (pa_cons (pe_tup pa_nil) pa_nil)))
      (pss_cons (ps_for (passes_of rfl) rfl (RT.pi_revA (by rfl) T.n_reversed (pe_listRg rfl (by rfl) T.n_list (prg_1 (by rfl) T.n_range (pv 0)))) (pg_name (i := 3) sc_choices_of.nd rfl (by first | exact Or.inl rfl | exact Or.inr rfl)) (pss_cons (ps_setLc (i := 4) (own := [("row", 5)]) rfl sc_choices_of.nd rfl rfl (sw_true rfl rfl rfl (by decide +kernel)) (pi_seqU (pv 2)) (blkOk_by (own := [("row", 5)]) (N := ["many", "most", "found", "at", "more", "row"]) (sc := defScope s_choices_of) (by decide +kernel)) (fun _ _ _ _ _ => (pg_name (i := 5) sc_choices_of.nd rfl (Or.inl rfl))) (fun _ _ _ _ _ => (pts_one (pt_cmpR (op_ltU hr.units0) (pe_callB call_lenU (by rfl) T.n_len (by decide +kernel) (pa_cons (pv 5) pa_nil)) (pv 1) (nomark _)))) (fun _ _ _ _ _ => (pe_tup (pa_cons (pv 3) (StX.pa_star (pv 5) pa_nil)))))
      (pss_one (ps_set (i := 2) sc_choices_of.nd rfl (by first | exact Or.inl rfl | exact Or.inr rfl) (pe_op op_addU (pe_slice sl_U (pv 2) po_none (po_some pe_int)) (pe_callB (call_sortT (hu65 hr)) (by rfl) T.n_sorted (by decide +kernel) (pa_cons (pe_op op_addU (pv 4) (pe_slice sl_U (pv 2) (po_some pe_int) po_none)) pa_nil)))))))
      (pss_one (ps_ret (pv 2)))))
  · refine run_bodyS (n := 2) (by decide) (by rintro _ _ ⟨⟩ <;> rfl) h fun s o hR hv hE => ?_
    obtain ⟨v0, v1, rfl⟩ := len2 hv
    cases hR with
    | mk h h1 => exact ⟨_, rd_choices_of h h1, .rt (Lv.leave (by walk_at "lv") rfl)⟩
theorem ok_are_seen (T : Tx P K mg A) (TBs : TBs base mg A ∧ Dif A) : FnOk P w K mg base (L2.CX P w) 3 A.a_are_seen A.fd_are_seen ["value"] (spF K (R_are_seen K A.C A.T)) := by
  refine T.F_are_seen.okX sc_are_seen (fun vs H Q E h => spf_len (by rintro _ _ ⟨⟩ <;> rfl) h) (fun cdv Ar outer s H vs Q E hr h => ⟨t_are_seen K A.C A.T E, ?_, ?_⟩)
  · exact (pss_cons (ps_if (PW.pt (pw_or (pt_not (pt_val (pe_call (ok_are_at_most T TBs) (hr.mono (by decide)) (by rfl) T.g_are_at_most T.F_are_at_most.kp T.b_are_at_most .nil (pass_e (takes_of rfl rfl rfl rfl)) (pa_cons (pv 0) (pa_cons (pe_glob (by rfl) T.c_MOST_SEEN T.r_MOST_SEEN) pa_nil))))) (pw_or1 (pt_not (pt_val (pe_callB (call_allU rfl) (by rfl) T.n_all (by decide +kernel) (pa_cons (pe_lc (own := [("street", 1)]) rfl sc_are_seen.nd (pi_seqU (pv 0)) (blkOk_by (own := [("street", 1)]) (N := ["value", "street"]) (sc := defScope s_are_seen) (by decide +kernel)) (fun _ _ _ _ _ => (pg_name (i := 1) sc_are_seen.nd rfl (Or.inl rfl))) (fun _ _ _ _ _ => pts_nil) (fun _ _ _ _ _ => (pe_call (ok_is_in T TBs) (hr.mono (by decide)) (by rfl) T.g_is_in T.F_is_in.kp T.b_is_in .nil passL (pa_cons (pv 1) (pa_cons pe_int (pa_cons (pe_glob (by rfl) T.c_MOST_STREET T.r_MOST_STREET) pa_nil)))))) pa_nil))))))) (pss_one (ps_ret pe_bl)) pss_nil)
      (pss_one (ps_ret (pe_call (ok_is_ascending T TBs) (hr.mono (by decide)) (by rfl) T.g_is_ascending T.F_is_ascending.kp T.b_is_ascending .nil (pass_e (takes_of rfl rfl rfl rfl)) (pa_cons (pv 0) pa_nil)))))
  · refine run_bodyS (n := 1) (by decide) (by rintro _ _ ⟨⟩ <;> rfl) h fun s o hR hv hE => ?_
    obtain ⟨v0, rfl⟩ := len1 hv
    cases hR with
    | mk h => exact ⟨_, rd_are_seen h, .rt (Lv.leave (by walk_at "lv") rfl)⟩
theorem ok_are_callers (T : Tx P K mg A) (TBs : TBs base mg A ∧ Dif A) : FnOk P w K mg base (L2.CX P w) 4 A.a_are_callers A.fd_are_callers ["value"] (spF K (R_are_callers K A.C A.T)) := by
  refine T.F_are_callers.okX sc_are_callers (fun vs H Q E h => spf_len (by rintro _ _ ⟨⟩ <;> rfl) h) (fun cdv Ar outer s H vs Q E hr h => ⟨t_are_callers K A.C A.T E, ?_, ?_⟩)
  · exact (pss_cons (ps_if (PW.pt (pw_or (pt_not (pt_val (pe_call (ok_are_at_most T TBs) (hr.mono (by decide)) (by rfl) T.g_are_at_most T.F_are_at_most.kp T.b_are_at_most .nil (pass_e (takes_of rfl rfl rfl rfl)) (pa_cons (pv 0) (pa_cons (pe_glob (by rfl) T.c_MOST_CALLERS T.r_MOST_CALLERS) pa_nil))))) (pw_or1 (pt_not (pt_val (pe_callB (call_allU rfl) (by rfl) T.n_all (by decide +kernel) (pa_cons (pe_lc (own := [("caller", 1)]) rfl sc_are_callers.nd (pi_seqU (pv 0)) (blkOk_by (own := [("caller", 1)]) (N := ["value", "caller"]) (sc := defScope s_are_callers) (by decide +kernel)) (fun _ _ _ _ _ => (pg_name (i := 1) sc_are_callers.nd rfl (Or.inl rfl))) (fun _ _ _ _ _ => pts_nil) (fun _ _ _ _ _ => (pe_call (ok_is_tuple_of T TBs) (hr.mono (by decide)) (by rfl) T.g_is_tuple_of T.F_is_tuple_of.kp T.b_is_tuple_of .nil passL (pa_cons (pv 1) (pa_cons pe_int pa_nil))))) pa_nil))))))) (pss_one (ps_ret pe_bl)) pss_nil)
      (pss_one (ps_ret (pe_callB (call_allU rfl) (by rfl) T.n_all (by decide +kernel) (pa_cons (pe_lc (own := [("caller", 1)]) rfl sc_are_callers.nd (pi_seqU (pv 0)) (blkOk_by (own := [("caller", 1)]) (N := ["value", "caller"]) (sc := defScope s_are_callers) (by decide +kernel)) (fun _ _ _ _ _ => (pg_name (i := 1) sc_are_callers.nd rfl (Or.inl rfl))) (fun _ _ _ _ _ => pts_nil) (fun _ _ _ _ _ => (pe_and (pe_call (ok_are_seen T TBs) (hr.mono (by decide)) (by rfl) T.g_are_seen T.F_are_seen.kp T.b_are_seen .nil passL (pa_cons (pe_ix ix_U (pv 1) pe_int (fun _ _ => rfl)) pa_nil)) (pe_one (pe_callB call_isi (by rfl) T.n_isinstance (by decide +kernel) (pa_cons (pe_ix ix_U (pv 1) pe_int (fun _ _ => rfl)) (pa_cons (pe_bltn (v := .ty "bool") (by rfl) T.n_bool (by decide +kernel) rfl) pa_nil))))))) pa_nil)))))
  · refine run_bodyS (n := 1) (by decide) (by rintro _ _ ⟨⟩ <;> rfl) h fun s o hR hv hE => ?_
    obtain ⟨v0, rfl⟩ := len1 hv
    cases hR with
    | mk h => exact ⟨_, rd_are_callers h, .rt (Lv.leave (by walk_at "lv") rfl)⟩
theorem ok_explains (T : Tx P K mg A) (TBs : TBs base mg A ∧ Dif A) : FnOk P w K mg base (L2.CX P w) 1 A.a_explains A.fd_explains ["callers", "some"] (spF K (R_explains K A.C A.T)) := by
  refine T.F_explains.okX sc_explains (fun vs H Q E h => spf_len (by rintro _ _ ⟨⟩ <;> rfl) h) (fun cdv Ar outer s H vs Q E hr h => ⟨t_explains K A.C A.T E, ?_, ?_⟩)
  · exact (pss_one (ps_ret (pe_callB (call_allU rfl) (by rfl) T.n_all (by decide +kernel) (pa_cons (pe_lc (own := [("sees", 2), ("is_dark", 3)]) rfl sc_explains.nd (pi_seqU (pv 0)) (blkOk_by (own := [("sees", 2), ("is_dark", 3)]) (N := ["callers", "some", "sees", "is_dark", "street"]) (sc := defScope s_explains) (by decide +kernel)) (fun _ _ _ _ _ => (pg_tup rfl (pgs_cons (pg_name (i := 2) sc_explains.nd rfl (by first | exact Or.inl rfl | exact Or.inr rfl)) (pgs_cons (pg_name (i := 3) sc_explains.nd rfl (by first | exact Or.inl rfl | exact Or.inr rfl)) pgs_nil)))) (fun _ _ _ _ _ => pts_nil) (fun _ _ _ _ _ => (pe_cmpR (op_eqU hr.units) (pe_callB (call_anyU rfl) (by rfl) T.n_any (by decide +kernel) (pa_cons (pe_lc (own := [("street", 4)]) rfl sc_explains.nd (pi_seqU (pv 1)) (blkOk_by (own := [("street", 4)]) (by rfl)) (fun _ _ _ _ _ => (pg_name (i := 4) sc_explains.nd rfl (Or.inl rfl))) (fun _ _ _ _ _ => pts_nil) (fun _ _ _ _ _ => (pe_cmpR (op_inU (hu65 hr)) (pv 4) (pv 2) rfl))) pa_nil)) (pv 3) (nomark _)))) pa_nil))))
  · refine run_bodyS (n := 2) (by decide) (by rintro _ _ ⟨⟩ <;> rfl) h fun s o hR hv hE => ?_
    obtain ⟨v0, v1, rfl⟩ := len2 hv
    cases hR with
    | mk h h1 => exact ⟨_, rd_explains h h1, .rt (Lv.leave (by walk_at "lv") rfl)⟩
theorem ok_blamed_of (T : Tx P K mg A) (TBs : TBs base mg A ∧ Dif A) : FnOk P w K mg base (L2.CX P w) 2 A.a_blamed_of A.fd_blamed_of ["callers", "most"] (spF K (R_blamed_of K A.C A.T)) := by
  refine T.F_blamed_of.okX sc_blamed_of (fun vs H Q E h => spf_len (by rintro _ _ ⟨⟩ <;> rfl) h) (fun cdv Ar outer s H vs Q E hr h => ⟨t_blamed_of K A.C A.T E, ?_, ?_⟩)
  · exact (pss_cons (ps_set (i := 2) sc_blamed_of.nd rfl (by first | exact Or.inl rfl | exact Or.inr rfl) (pe_lc2 (own := [("sees", 5), ("is_dark", 6), ("street", 7)]) (vs1 := [7]) rfl sc_blamed_of.nd (pi_seqU (pv 0)) (blkOk_by (own := [("sees", 5), ("is_dark", 6), ("street", 7)]) (N := ["callers", "most", "lit", "free", "rows", "sees", "is_dark", "street", "row", "at"]) (sc := defScope s_blamed_of) (by decide +kernel)) (by decide) (fun _ _ _ _ _ => (pg_tup rfl (pgs_cons (pg_name (i := 5) sc_blamed_of.nd rfl (by first | exact Or.inl rfl | exact Or.inr rfl)) (pgs_cons (pg_name (i := 6) sc_blamed_of.nd rfl (by first | exact Or.inl rfl | exact Or.inr rfl)) pgs_nil)))) (fun _ _ _ _ _ => pts_nil) (fun _ _ _ _ _ => (pi_seqU (pv 5))) (fun _ _ _ _ _ => (pg_name (i := 7) sc_blamed_of.nd rfl (by first | exact Or.inl rfl | exact Or.inr rfl))) (fun _ _ _ _ _ => (pts_one (pt_not (pt_val (pv 6))))) (fun _ _ _ _ _ => (pv 7))))
      (pss_cons (ps_set (i := 3) sc_blamed_of.nd rfl (by first | exact Or.inl rfl | exact Or.inr rfl) (pe_lc (own := [("street", 7)]) rfl sc_blamed_of.nd (pi_range1 (by rfl) T.n_range (pa_cons (pe_op op_addU (pe_glob (by rfl) T.c_MOST_STREET T.r_MOST_STREET) pe_int) pa_nil)) (blkOk_by (own := [("street", 7)]) (N := ["callers", "most", "lit", "free", "rows", "sees", "is_dark", "street", "row", "at"]) (sc := defScope s_blamed_of) (by decide +kernel)) (fun _ _ _ _ _ => (pg_name (i := 7) sc_blamed_of.nd rfl (Or.inl rfl))) (fun _ _ _ _ _ => (pts_one (pt_cmpR (op_ninU (hu65 hr)) (pv 7) (pv 2) rfl))) (fun _ _ _ _ _ => (pv 7))))
      (pss_cons (ps_setLc (i := 4) (own := [("row", 8)]) rfl sc_blamed_of.nd rfl rfl (sw_true rfl rfl rfl (by decide +kernel)) (pi_seqU (pe_call (ok_choices_of T TBs) (hr.mono (by decide)) (by rfl) T.g_choices_of T.F_choices_of.kp T.b_choices_of .nil (pass_e (takes_of rfl rfl rfl rfl)) (pa_cons (pe_callB call_lenU (by rfl) T.n_len (by decide +kernel) (pa_cons (pv 3) pa_nil)) (pa_cons (pv 1) pa_nil)))) (blkOk_by (own := [("row", 8)]) (N := ["callers", "most", "lit", "free", "rows", "sees", "is_dark", "street", "row", "at"]) (sc := defScope s_blamed_of) (by decide +kernel)) (fun _ _ _ _ _ => (pg_name (i := 8) sc_blamed_of.nd rfl (by first | exact Or.inl rfl | exact Or.inr rfl))) (fun _ _ _ _ _ => pts_nil) (fun _ _ _ _ _ => (pe_callTy call_tupU (by rfl) T.n_tuple (by decide +kernel) (pa_cons (pe_lc (own := [("at", 9)]) rfl sc_blamed_of.nd (pi_seqU (pv 8)) (blkOk_by (own := [("at", 9)]) (by rfl)) (fun _ _ _ _ _ => (pg_name (i := 9) sc_blamed_of.nd rfl (Or.inl rfl))) (fun _ _ _ _ _ => pts_nil) (fun _ _ _ _ _ => (pe_ix ix_U (pv 3) (pv 9) (fun _ _ => rfl)))) pa_nil))))
      (pss_one (ps_ret (pe_lc (own := [("row", 8)]) rfl sc_blamed_of.nd (pi_seqU (pv 4)) (blkOk_by (own := [("row", 8)]) (N := ["callers", "most", "lit", "free", "rows", "sees", "is_dark", "street", "row", "at"]) (sc := defScope s_blamed_of) (by decide +kernel)) (fun _ _ _ _ _ => (pg_name (i := 8) sc_blamed_of.nd rfl (Or.inl rfl))) (fun _ _ _ _ _ => (pts_one (pt_val (pe_call (ok_explains T TBs) (hr.mono (by decide)) (by rfl) T.g_explains T.F_explains.kp T.b_explains .nil passL (pa_cons (pv 0) (pa_cons (pv 8) pa_nil)))))) (fun _ _ _ _ _ => (pv 8))))))))
  · refine run_bodyS (n := 2) (by decide) (by rintro _ _ ⟨⟩ <;> rfl) h fun s o hR hv hE => ?_
    obtain ⟨v0, v1, rfl⟩ := len2 hv
    cases hR with
    | mk h h1 => exact ⟨_, rd_blamed_of h h1, .rt (Lv.leave (by walk_at "lv") rfl)⟩
theorem ok_blamed (T : Tx P K mg A) (TBs : TBs base mg A ∧ Dif A) : FnOk P w K mg base (L2.CX P w) 5 A.a_blamed A.fd_blamed ["callers", "most"] (spF K (R_blamed K A.C A.T)) := by
  refine T.F_blamed.okX sc_blamed (fun vs H Q E h => spf_len (by rintro _ _ ⟨⟩ <;> rfl) h) (fun cdv Ar outer s H vs Q E hr h => ⟨t_blamed K A.C A.T E, ?_, ?_⟩)
  · exact (pss_cons (ps_expr (pe_call (ok_demand T TBs) (hr.mono (by decide)) (by rfl) T.g_demand T.F_demand.kp T.b_demand .nil (pass_e (takes_of rfl rfl rfl rfl)) (pa_cons (pe_call (ok_are_callers T TBs) (hr.mono (by decide)) (by rfl) T.g_are_callers T.F_are_callers.kp T.b_are_callers .nil (pass_e (takes_of rfl rfl rfl rfl)) (pa_cons (pv 0) pa_nil)) (pa_cons pe_str pa_nil))))
      (pss_cons (ps_expr (pe_call (ok_demand T TBs) (hr.mono (by decide)) (by rfl) T.g_demand T.F_demand.kp T.b_demand .nil (pass_e (takes_of rfl rfl rfl rfl)) (pa_cons (pe_call (ok_is_in T TBs) (hr.mono (by decide)) (by rfl) T.g_is_in T.F_is_in.kp T.b_is_in .nil (pass_e (takes_of rfl rfl rfl rfl)) (pa_cons (pv 1) (pa_cons pe_int (pa_cons (pe_op op_addU (pe_glob (by rfl) T.c_MOST_STREET T.r_MOST_STREET) pe_int) pa_nil)))) (pa_cons pe_str pa_nil))))
      (pss_one (ps_ret (pe_callTy call_tupU (by rfl) T.n_tuple (by decide +kernel) (pa_cons (pe_call (ok_blamed_of T TBs) (hr.mono (by decide)) (by rfl) T.g_blamed_of T.F_blamed_of.kp T.b_blamed_of .nil (pass_e (takes_of rfl rfl rfl rfl)) (pa_cons (pv 0) (pa_cons (pv 1) pa_nil))) pa_nil))))))
  · refine run_bodyS (n := 2) (by decide) (by rintro _ _ ⟨⟩ <;> rfl) h fun s o hR hv hE => ?_
    obtain ⟨v0, v1, rfl⟩ := len2 hv
    cases hR with
    | ok h h1 h2 => exact ⟨_, rd_blamed_ok h h1 h2, .rt (Lv.leave (by walk_at "lv") rfl)⟩
    | no1 h => exact ⟨_, rd_blamed_no1 h, .ex (Lv.leave (by walk_at "lv") rfl)⟩
    | no2 h h1 h2 => exact ⟨_, rd_blamed_no2 h h1 h2, .ex (Lv.leave (by walk_at "lv") rfl)⟩
theorem ok_surely (T : Tx P K mg A) (TBs : TBs base mg A ∧ Dif A) : FnOk P w K mg base (L2.CX P w) 6 A.a_surely A.fd_surely ["callers", "most"] (spF K (R_surely K A.C A.T)) := by
  refine T.F_surely.okX sc_surely (fun vs H Q E h => spf_len (by rintro _ _ ⟨⟩ <;> rfl) h) (fun cdv Ar outer s H vs Q E hr h => ⟨t_surely K A.C A.T E, ?_, ?_⟩)
  · exact (pss_cons (ps_set (i := 2) sc_surely.nd rfl (by first | exact Or.inl rfl | exact Or.inr rfl) (pe_call (ok_blamed T TBs) (hr.mono (by decide)) (by rfl) T.g_blamed T.F_blamed.kp T.b_blamed .nil (pass_e (takes_of rfl rfl rfl rfl)) (pa_cons (pv 0) (pa_cons (pv 1) pa_nil))))
      (pss_one (ps_ret (pe_callTy call_tupU (by rfl) T.n_tuple (by decide +kernel) (pa_cons (pe_lc (own := [("street", 3)]) rfl sc_surely.nd (pi_range1 (by rfl) T.n_range (pa_cons (pe_op op_addU (pe_glob (by rfl) T.c_MOST_STREET T.r_MOST_STREET) pe_int) pa_nil)) (blkOk_by (own := [("street", 3)]) (N := ["callers", "most", "rows", "street", "row"]) (sc := defScope s_surely) (by decide +kernel)) (fun _ _ _ _ _ => (pg_name (i := 3) sc_surely.nd rfl (by first | exact Or.inl rfl | exact Or.inr rfl))) (fun _ _ _ _ _ => (pts_one (PW.pt (pw_and (pt_cmpR (op_neU hr.units) (pv 2) (pe_tup pa_nil) (nomark _)) (pw_and1 (pt_val (pe_callB (call_allU rfl) (by rfl) T.n_all (by decide +kernel) (pa_cons (pe_lc (own := [("row", 4)]) rfl sc_surely.nd (pi_seqU (pv 2)) (blkOk_by (own := [("row", 4)]) (by rfl)) (fun _ _ _ _ _ => (pg_name (i := 4) sc_surely.nd rfl (Or.inl rfl))) (fun _ _ _ _ _ => pts_nil) (fun _ _ _ _ _ => (pe_cmpR (op_inU (hu65 hr)) (pv 3) (pv 4) rfl))) pa_nil)))))))) (fun _ _ _ _ _ => (pv 3))) pa_nil)))))
  · refine run_bodyS (n := 2) (by decide) (by rintro _ _ ⟨⟩ <;> rfl) h fun s o hR hv hE => ?_
    obtain ⟨v0, v1, rfl⟩ := len2 hv
    cases hR with
    | ok h h1 h2 => exact ⟨_, rd_surely_ok h h1 h2, .rt (Lv.leave (by walk_at "lv") rfl)⟩
    | no1 h => exact ⟨_, rd_surely_no1 h, .ex (Lv.leave (by walk_at "lv") rfl)⟩
    | no2 h h1 h2 => exact ⟨_, rd_surely_no2 h h1 h2, .ex (Lv.leave (by walk_at "lv") rfl)⟩
theorem ok_possibly (T : Tx P K mg A) (TBs : TBs base mg A ∧ Dif A) : FnOk P w K mg base (L2.CX P w) 6 A.a_possibly A.fd_possibly ["callers", "most"] (spF K (R_possibly K A.C A.T)) := by
  refine T.F_possibly.okX sc_possibly (fun vs H Q E h => spf_len (by rintro _ _ ⟨⟩ <;> rfl) h) (fun cdv Ar outer s H vs Q E hr h => ⟨t_possibly K A.C A.T E, ?_, ?_⟩)
  · exact (pss_cons (ps_set (i := 2) sc_possibly.nd rfl (by first | exact Or.inl rfl | exact Or.inr rfl) (pe_call (ok_blamed T TBs) (hr.mono (by decide)) (by rfl) T.g_blamed T.F_blamed.kp T.b_blamed .nil (pass_e (takes_of rfl rfl rfl rfl)) (pa_cons (pv 0) (pa_cons (pv 1) pa_nil))))
      (pss_one (ps_ret (pe_callTy call_tupU (by rfl) T.n_tuple (by decide +kernel) (pa_cons (pe_lc (own := [("street", 3)]) rfl sc_possibly.nd (pi_range1 (by rfl) T.n_range (pa_cons (pe_op op_addU (pe_glob (by rfl) T.c_MOST_STREET T.r_MOST_STREET) pe_int) pa_nil)) (blkOk_by (own := [("street", 3)]) (N := ["callers", "most", "rows", "street", "row"]) (sc := defScope s_possibly) (by decide +kernel)) (fun _ _ _ _ _ => (pg_name (i := 3) sc_possibly.nd rfl (by first | exact Or.inl rfl | exact Or.inr rfl))) (fun _ _ _ _ _ => (pts_one (pt_val (pe_callB (call_anyU rfl) (by rfl) T.n_any (by decide +kernel) (pa_cons (pe_lc (own := [("row", 4)]) rfl sc_possibly.nd (pi_seqU (pv 2)) (blkOk_by (own := [("row", 4)]) (by rfl)) (fun _ _ _ _ _ => (pg_name (i := 4) sc_possibly.nd rfl (Or.inl rfl))) (fun _ _ _ _ _ => pts_nil) (fun _ _ _ _ _ => (pe_cmpR (op_inU (hu65 hr)) (pv 3) (pv 4) rfl))) pa_nil))))) (fun _ _ _ _ _ => (pv 3))) pa_nil)))))
  · refine run_bodyS (n := 2) (by decide) (by rintro _ _ ⟨⟩ <;> rfl) h fun s o hR hv hE => ?_
    obtain ⟨v0, v1, rfl⟩ := len2 hv
    cases hR with
    | ok h h1 h2 => exact ⟨_, rd_possibly_ok h h1 h2, .rt (Lv.leave (by walk_at "lv") rfl)⟩
    | no1 h => exact ⟨_, rd_possibly_no1 h, .ex (Lv.leave (by walk_at "lv") rfl)⟩
    | no2 h h1 h2 => exact ⟨_, rd_possibly_no2 h h1 h2, .ex (Lv.leave (by walk_at "lv") rfl)⟩
theorem ok_least_blamed (T : Tx P K mg A) (TBs : TBs base mg A ∧ Dif A) : FnOk P w K mg base (L2.CX P w) 5 A.a_least_blamed A.fd_least_blamed ["callers"] (spF K (R_least_blamed K A.C A.T)) := by
  refine T.F_least_blamed.okX sc_least_blamed (fun vs H Q E h => spf_len (by rintro _ _ ⟨⟩ <;> rfl) h) (fun cdv Ar outer s H vs Q E hr h => ⟨t_least_blamed K A.C A.T E, ?_, ?_⟩)
  · exact (pss_cons (ps_expr (pe_call (ok_demand T TBs) (hr.mono (by decide)) (by rfl) T.g_demand T.F_demand.kp T.b_demand .nil (pass_e (takes_of rfl rfl rfl rfl)) (pa_cons (pe_call (ok_are_callers T TBs) (hr.mono (by decide)) (by rfl) T.g_are_callers T.F_are_callers.kp T.b_are_callers .nil (pass_e (takes_of rfl rfl rfl rfl)) (pa_cons (pv 0) pa_nil)) (pa_cons pe_str pa_nil))))
      (pss_cons (ps_set (i := 1) sc_least_blamed.nd rfl (by first | exact Or.inl rfl | exact Or.inr rfl) (pe_call (ok_blamed_of T TBs) (hr.mono (by decide)) (by rfl) T.g_blamed_of T.F_blamed_of.kp T.b_blamed_of .nil (pass_e (takes_of rfl rfl rfl rfl)) (pa_cons (pv 0) (pa_cons (pe_op op_addU (pe_glob (by rfl) T.c_MOST_STREET T.r_MOST_STREET) pe_int) pa_nil))))
      (pss_one (ps_ret (pe_callBK (call_minK rfl (hu65 hr)) (by rfl) T.n_min (by decide +kernel) (pa_cons (pe_lc (own := [("row", 2)]) rfl sc_least_blamed.nd (pi_seqU (pv 1)) (blkOk_by (own := [("row", 2)]) (N := ["callers", "rows", "row"]) (sc := defScope s_least_blamed) (by decide +kernel)) (fun _ _ _ _ _ => (pg_name (i := 2) sc_least_blamed.nd rfl (Or.inl rfl))) (fun _ _ _ _ _ => pts_nil) (fun _ _ _ _ _ => (pe_callB call_lenU (by rfl) T.n_len (by decide +kernel) (pa_cons (pv 2) pa_nil)))) pa_nil) (pk_cons pe_non pk_nil))))))
  · refine run_bodyS (n := 1) (by decide) (by rintro _ _ ⟨⟩ <;> rfl) h fun s o hR hv hE => ?_
    obtain ⟨v0, rfl⟩ := len1 hv
    cases hR with
    | ok h => exact ⟨_, rd_least_blamed_ok h, .rt (Lv.leave (by walk_at "lv") rfl)⟩
    | no1 h => exact ⟨_, rd_least_blamed_no1 h, .ex (Lv.leave (by walk_at "lv") rfl)⟩
theorem ok__law_dice (T : Tx P K mg A) (TBs : TBs base mg A ∧ Dif A) : FnOk P w K mg base (L2.CX P w) 1 A.a__law_dice A.fd__law_dice ["script", "spot"] (spF K (R__law_dice K A.C A.T)) := by
  refine T.F__law_dice.okX sc__law_dice (fun vs H Q E h => spf_len (by rintro _ _ ⟨⟩ <;> rfl) h) (fun cdv Ar outer s H vs Q E hr h => ⟨t__law_dice K A.C A.T E, ?_, ?_⟩)
  · exact (pss_cons (ps_set (i := 2) sc__law_dice.nd rfl (by first | exact Or.inl rfl | exact Or.inr rfl) (pe_ifExp (pt_cmpR (op_ltU hr.units0) (pv 1) (pe_callB call_lenU (by rfl) T.n_len (by decide +kernel) (pa_cons (pv 0) pa_nil)) (nomark _)) (pe_ix ix_U (pv 0) (pv 1) (fun _ _ => rfl)) (pe_op op_addU (pe_op op_mulV pe_int (pv 1)) pe_int)))
      (pss_cons (ps_set (i := 3) sc__law_dice.nd rfl (by first | exact Or.inl rfl | exact Or.inr rfl) (pe_op op_addU pe_int (pe_op op_mulV pe_int (pv 1))))
      (pss_cons (ps_for (passes_of rfl) rfl (pi_seqU (pe_op op_addU (pe_slice sl_U (pv 0) po_none (po_some pe_int)) (pe_lst (pa_cons (pv 2) pa_nil)))) (pg_name (i := 4) sc__law_dice.nd rfl (by first | exact Or.inl rfl | exact Or.inr rfl)) (pss_one (ps_set (i := 3) sc__law_dice.nd rfl (by first | exact Or.inl rfl | exact Or.inr rfl) (pe_op op_modU (pe_callTy call_intU (by rfl) T.n_int (by decide +kernel) (pa_cons (pe_op op_addU (pe_op op_mulV (pv 3) pe_int) (pe_op op_modU (pe_callTy call_intU (by rfl) T.n_int (by decide +kernel) (pa_cons (pv 4) pa_nil)) pe_int)) pa_nil)) pe_int))))
      (pss_one (ps_ret (pe_lst (pa_cons (pe_ifExp (PW.pt (pw_or (pt_cmpR (op_ltU hr.units0) (pv 2) pe_int (nomark _)) (pw_or1 (pt_cmpR op_geU (pv 2) (pe_op op_powU pe_int pe_int) (nomark _))))) (pe_callB call_absU (by rfl) T.n_abs (by decide +kernel) (pa_cons (pv 2) pa_nil)) pe_int) (pa_cons (pv 3) (pa_cons pe_int pa_nil)))))))))
  · refine run_bodyS (n := 2) (by decide) (by rintro _ _ ⟨⟩ <;> rfl) h fun s o hR hv hE => ?_
    obtain ⟨v0, v1, rfl⟩ := len2 hv
    cases hR with
    | mk h => obtain ⟨s1, hr1, hg⟩ := (rd__law_dice h); exact ⟨_, hr1, .ro (Lv.leave (by walk_at "lv") hg.symm)⟩
theorem ok__law_roll (T : Tx P K mg A) (TBs : TBs base mg A ∧ Dif A) : FnOk P w K mg base (L2.CX P w) 1 A.a__law_roll A.fd__law_roll ["dice", "total"] (spF K (R__law_roll K A.C A.T)) := by
  refine T.F__law_roll.okX sc__law_roll (fun vs H Q E h => spf_len (by rintro _ _ ⟨⟩ <;> rfl) h) (fun cdv Ar outer s H vs Q E hr h => ⟨t__law_roll K A.C A.T E, ?_, ?_⟩)
  · exact (pss_cons (ps_if (pt_cmpR op_gtU (pe_ix ix_U (pv 0) pe_int (fun _ _ => rfl)) pe_int (nomark _)) (pss_cons (ps_set (i := 2) sc__law_roll.nd rfl (by first | exact Or.inl rfl | exact Or.inr rfl) (pe_op op_modU (pe_callTy call_intU (by rfl) T.n_int (by decide +kernel) (pa_cons (pe_ix ix_U (pv 0) pe_int (fun _ _ => rfl)) pa_nil)) (pv 1)))
      (pss_cons (ps_asg (pe_op op_divU (pe_ix ix_U (pv 0) pe_int (fun _ _ => rfl)) (pv 1)) (pg_sub (pv 0) pe_int set_list))
      (pss_one (ps_ret (pv 2))))) pss_nil)
      (pss_cons (ps_asg (pe_op op_addU (pe_ix ix_U (pv 0) pe_int (fun _ _ => rfl)) pe_int) (pg_sub (pv 0) pe_int set_list))
      (pss_cons (ps_asg (pe_op op_modU (pe_callTy call_intU (by rfl) T.n_int (by decide +kernel) (pa_cons (pe_op op_addU (pe_op op_addU (pe_op op_mulV (pe_ix ix_U (pv 0) pe_int (fun _ _ => rfl)) pe_int) (pe_op op_mulV (pe_op op_mulV (pe_ix ix_U (pv 0) pe_int (fun _ _ => rfl)) (pe_ix ix_U (pv 0) pe_int (fun _ _ => rfl))) pe_int)) pe_int) pa_nil)) pe_int) (pg_sub (pv 0) pe_int set_list))
      (pss_one (ps_ret (pe_op op_modU (pe_callTy call_intU (by rfl) T.n_int (by decide +kernel) (pa_cons (pe_op op_divU (pe_ix ix_U (pv 0) pe_int (fun _ _ => rfl)) pe_int) pa_nil)) (pv 1)))))))
  · refine run_bodyS (n := 2) (by decide) (by rintro _ _ ⟨⟩ <;> rfl) h fun s o hR hv hE => ?_
    obtain ⟨v0, v1, rfl⟩ := len2 hv
    cases hR with
    | mk h1 h2 h3 h4 => obtain rfl := pin_at hE; obtain ⟨s1, hr1, hs, hg⟩ := (rd__law_roll h1 h2 h3 h4); exact ⟨_, hr1, .rt (Lv.leave (by walk_at "lv") hg.symm)⟩
theorem ok__law_pick (T : Tx P K mg A) (TBs : TBs base mg A ∧ Dif A) : FnOk P w K mg base (L2.CX P w) 2 A.a__law_pick A.fd__law_pick ["dice", "things"] (spF K (R__law_pick K A.C A.T)) := by
  refine T.F__law_pick.okX sc__law_pick (fun vs H Q E h => spf_len (by rintro _ _ ⟨⟩ <;> rfl) h) (fun cdv Ar outer s H vs Q E hr h => ⟨t__law_pick K A.C A.T E, ?_, ?_⟩)
  · exact (pss_one (ps_ret (pe_ix ix_U (pv 1) (pe_call (ok__law_roll T TBs) (hr.mono (by decide)) (by rfl) T.g__law_roll T.F__law_roll.kp T.b__law_roll .nil (pass_e (takes_of rfl rfl rfl rfl)) (pa_cons (pv 0) (pa_cons (pe_callB call_lenU (by rfl) T.n_len (by decide +kernel) (pa_cons (pv 1) pa_nil)) pa_nil))) (fun _ _ => rfl))))
  · refine run_bodyS (n := 2) (by decide) (by rintro _ _ ⟨⟩ <;> rfl) h fun s o hR hv hE => ?_
    obtain ⟨v0, v1, rfl⟩ := len2 hv
    cases hR with
    | mk h1 h2 h3 h4 => obtain rfl := pin_at hE; exact ⟨_, rd__law_pick h1 h2 h3 h4, .rt (Lv.leave (by walk_at "lv") rfl)⟩
theorem ok__law_subsets (T : Tx P K mg A) (TBs : TBs base mg A ∧ Dif A) : FnOk P w K mg base (L2.CX P w) 1 A.a__law_subsets A.fd__law_subsets ["many", "most"] (spF K (R__law_subsets K A.C A.T)) := by
  refine T.F__law_subsets.okX sc__law_subsets (fun vs H Q E h => spf_len (by rintro _ _ ⟨⟩ <;> rfl) h) (fun cdv Ar outer s H vs Q E hr h => ⟨t__law_subsets K A.C A.T E, ?_, ?_⟩)
  · exact (pss_cons (ps_set (i := 2) sc__law_subsets.nd rfl (by first | exact Or.inl rfl | exact Or.inr rfl) (pe_lst (pa_cons (pe_tup pa_nil) pa_nil)))
      (pss_cons (ps_for (passes_of rfl) rfl (pi_range1 (by rfl) T.n_range (pa_cons (pv 0) pa_nil)) (pg_name (i := 3) sc__law_subsets.nd rfl (by first | exact Or.inl rfl | exact Or.inr rfl)) (pss_one (ps_set (i := 2) sc__law_subsets.nd rfl (by first | exact Or.inl rfl | exact Or.inr rfl) (pe_op op_addU (pv 2) (pe_lc (own := [("row", 4)]) rfl sc__law_subsets.nd (pi_seqU (pv 2)) (blkOk_by (own := [("row", 4)]) (N := ["many", "most", "rows", "at", "row"]) (sc := defScope s__law_subsets) (by decide +kernel)) (fun _ _ _ _ _ => (pg_name (i := 4) sc__law_subsets.nd rfl (Or.inl rfl))) (fun _ _ _ _ _ => (pts_one (pt_cmpR (op_ltU hr.units0) (pe_callB call_lenU (by rfl) T.n_len (by decide +kernel) (pa_cons (pv 4) pa_nil)) (pv 1) (nomark _)))) (fun _ _ _ _ _ => (pe_op op_addU (pv 4) (pe_tup (pa_cons (pv 3) pa_nil)))))))))
      (pss_one (ps_ret (pe_callB (call_sortT (hu65 hr)) (by rfl) T.n_sorted (by decide +kernel) (pa_cons (pv 2) pa_nil))))))
  · refine run_bodyS (n := 2) (by decide) (by rintro _ _ ⟨⟩ <;> rfl) h fun s o hR hv hE => ?_
    obtain ⟨v0, v1, rfl⟩ := len2 hv
    cases hR with
    | mk h h1 => exact ⟨_, rd__law_subsets h h1, .rt (Lv.leave (by walk_at "lv") rfl)⟩
theorem ok__law_explains (T : Tx P K mg A) (TBs : TBs base mg A ∧ Dif A) : FnOk P w K mg base (L2.CX P w) 1 A.a__law_explains A.fd__law_explains ["callers", "some"] (spF K (R__law_explains K A.C A.T)) := by
  refine T.F__law_explains.okX sc__law_explains (fun vs H Q E h => spf_len (by rintro _ _ ⟨⟩ <;> rfl) h) (fun cdv Ar outer s H vs Q E hr h => ⟨t__law_explains K A.C A.T E, ?_, ?_⟩)
  · exact (pss_cons (ps_for (passes_of rfl) rfl (pi_seqU (pv 0)) (pg_tup rfl (pgs_cons (pg_name (i := 2) sc__law_explains.nd rfl (by first | exact Or.inl rfl | exact Or.inr rfl)) (pgs_cons (pg_name (i := 3) sc__law_explains.nd rfl (by first | exact Or.inl rfl | exact Or.inr rfl)) pgs_nil))) (pss_one (ps_if (pt_cmpR (op_neU hr.units) (pe_cmpR (op_neU hr.units) (pe_lc (own := [("street", 4)]) rfl sc__law_explains.nd (pi_seqU (pv 2)) (blkOk_by (own := [("street", 4)]) (N := ["callers", "some", "sees", "is_dark", "street"]) (sc := defScope s__law_explains) (by decide +kernel)) (fun _ _ _ _ _ => (pg_name (i := 4) sc__law_explains.nd rfl (Or.inl rfl))) (fun _ _ _ _ _ => (pts_one (pt_cmpR (op_inU (hu65 hr)) (pv 4) (pv 1) rfl))) (fun _ _ _ _ _ => (pv 4))) (pe_lst pa_nil) (nomark _)) (pv 3) (nomark _)) (pss_one (ps_ret pe_bl)) pss_nil)))
      (pss_one (ps_ret pe_bl)))
  · refine run_bodyS (n := 2) (by decide) (by rintro _ _ ⟨⟩ <;> rfl) h fun s o hR hv hE => ?_
    obtain ⟨v0, v1, rfl⟩ := len2 hv
    cases hR with
    | mk h h1 => exact ⟨_, rd__law_explains h h1, .rt (Lv.leave (by walk_at "lv") rfl)⟩
theorem ok__law_refuses (T : Tx P K mg A) (TBs : TBs base mg A ∧ Dif A) : FnOk P w K mg base (L2.CX P w) 9 A.a__law_refuses A.fd__law_refuses ["dice"] (spF K (R__law_refuses K A.C A.T)) := by
  refine T.F__law_refuses.okX sc__law_refuses (fun vs H Q E h => spf_len (by rintro _ _ ⟨⟩ <;> rfl) h) (fun Ar outer s H vs Q E hr h => ⟨t__law_refuses K A.C A.T E, ?_, ?_⟩)
  · exact (pss_cons (ps_asg (pe_tup (pa_cons (pe_call (ok__law_pick T TBs) (hr.mono (by decide)) (by rfl) T.g__law_pick T.F__law_pick.kp T.b__law_pick .nil (pass_e (takes_of rfl rfl rfl rfl)) (pa_cons (pv 0) (pa_cons (pe_lst (pa_cons pe_non (pa_cons (pe_lst pa_nil) (pa_cons (pe_tup (pa_cons (pe_tup (pa_cons (pe_tup (pa_cons pe_int pa_nil)) (pa_cons pe_int pa_nil))) pa_nil)) (pa_cons (pe_tup (pa_cons (pe_tup (pa_cons (pe_tup (pa_cons pe_int (pa_cons pe_int pa_nil))) (pa_cons pe_bl pa_nil))) pa_nil)) (pa_cons (pe_tup (pa_cons (pe_tup (pa_cons (pe_tup (pa_cons pe_int pa_nil)) (pa_cons pe_bl pa_nil))) pa_nil)) (pa_cons (pe_tup (pa_cons (pe_tup (pa_cons pe_int (pa_cons pe_bl pa_nil))) pa_nil)) (pa_cons (pe_tup (pa_cons (pe_tup (pa_cons (pe_tup (pa_cons pe_int pa_nil)) pa_nil)) pa_nil)) (pa_cons (pe_op op_mulV (pe_tup (pa_cons (pe_tup (pa_cons (pe_tup pa_nil) (pa_cons pe_bl pa_nil))) pa_nil)) pe_int) pa_nil))))))))) pa_nil))) (pa_cons (pe_call (ok__law_pick T TBs) (hr.mono (by decide)) (by rfl) T.g__law_pick T.F__law_pick.kp T.b__law_pick .nil (pass_e (takes_of rfl rfl rfl rfl)) (pa_cons (pv 0) (pa_cons (pe_lst (pa_cons (pe_un un_negU pe_int) (pa_cons pe_int (pa_cons pe_non (pa_cons pe_bl pa_nil))))) pa_nil))) pa_nil))) (pg_tup rfl (pgs_cons (pg_name (i := 2) sc__law_refuses.nd rfl (by first | exact Or.inl rfl | exact Or.inr rfl)) (pgs_cons (pg_name (i := 3) sc__law_refuses.nd rfl (by first | exact Or.inl rfl | exact Or.inr rfl)) pgs_nil))))
      (pss_cons (ps_set (i := 1) sc__law_refuses.nd rfl (by first | exact Or.inl rfl | exact Or.inr rfl) (pe_lst (pa_cons (lam_ref (k := 6) T.F__law_refused sc__law_refused rfl T.x_BadArgument T.te_BadArgument rfl (by decide) rfl (Or.inl rfl) (fun _ _ _ _ _ _ => .all fun us hl => match us, hl with | [_], _ => rfl) T.g__law_refused (by rfl) TBs.1._law_refuses rfl (by first | exact List.mem_cons_self | decide +kernel) (fun p hp e => one_tab TBs.2.d (by first | exact List.mem_cons_self | exact List.mem_cons_of_mem _ List.mem_cons_self | exact List.mem_cons_of_mem _ (List.mem_cons_of_mem _ List.mem_cons_self) | decide +kernel) hp e) (hr.mono (by decide)) (lamS_by (sc := defScope s__law_refuses) (by decide +kernel)) rfl (fun _ _ _ _ _ => rfl) (by intro Ar outer s H E f c' hr; exact (pe_call (ok_blamed T TBs) (hr.mono (by decide)) (by rfl) T.g_blamed T.F_blamed.kp T.b_blamed .nil (pass_e (takes_of rfl rfl rfl rfl)) (pa_cons (pv 2) (pa_cons (pv 3) pa_nil))))) (pa_cons (lam_ref (k := 6) T.F__law_refused sc__law_refused rfl T.x_BadArgument T.te_BadArgument rfl (by decide) rfl (Or.inl rfl) (fun _ _ _ _ _ _ => .all fun us hl => match us, hl with | [_], _ => rfl) T.g__law_refused (by rfl) TBs.1._law_refuses rfl (by first | exact List.mem_cons_self | decide +kernel) (fun p hp e => one_tab TBs.2.d (by first | exact List.mem_cons_self | exact List.mem_cons_of_mem _ List.mem_cons_self | exact List.mem_cons_of_mem _ (List.mem_cons_of_mem _ List.mem_cons_self) | decide +kernel) hp e) (hr.mono (by decide)) (lamS_by (sc := defScope s__law_refuses) (by decide +kernel)) rfl (fun _ _ _ _ _ => rfl) (by intro Ar outer s H E f c' hr; exact (pe_call (ok_blamed T TBs) (hr.mono (by decide)) (by rfl) T.g_blamed T.F_blamed.kp T.b_blamed .nil (pass_e (takes_of rfl rfl rfl rfl)) (pa_cons (pe_tup pa_nil) (pa_cons (pv 3) pa_nil))))) (pa_cons (lam_ref (k := 6) T.F__law_refused sc__law_refused rfl T.x_BadArgument T.te_BadArgument rfl (by decide) rfl (Or.inl rfl) (fun _ _ _ _ _ _ => .all fun us hl => match us, hl with | [_], _ => rfl) T.g__law_refused (by rfl) TBs.1._law_refuses rfl (by first | exact List.mem_cons_self | decide +kernel) (fun p hp e => one_tab TBs.2.d (by first | exact List.mem_cons_self | exact List.mem_cons_of_mem _ List.mem_cons_self | exact List.mem_cons_of_mem _ (List.mem_cons_of_mem _ List.mem_cons_self) | decide +kernel) hp e) (hr.mono (by decide)) (lamS_by (sc := defScope s__law_refuses) (by decide +kernel)) rfl (fun _ _ _ _ _ => rfl) (by intro Ar outer s H E f c' hr; exact (pe_call (ok_surely T TBs) (hr.mono (by decide)) (by rfl) T.g_surely T.F_surely.kp T.b_surely .nil (pass_e (takes_of rfl rfl rfl rfl)) (pa_cons (pv 2) (pa_cons (pv 3) pa_nil))))) (pa_cons (lam_ref (k := 6) T.F__law_refused sc__law_refused rfl T.x_BadArgument T.te_BadArgument rfl (by decide) rfl (Or.inl rfl) (fun _ _ _ _ _ _ => .all fun us hl => match us, hl with | [_], _ => rfl) T.g__law_refused (by rfl) TBs.1._law_refuses rfl (by first | exact List.mem_cons_self | decide +kernel) (fun p hp e => one_tab TBs.2.d (by first | exact List.mem_cons_self | exact List.mem_cons_of_mem _ List.mem_cons_self | exact List.mem_cons_of_mem _ (List.mem_cons_of_mem _ List.mem_cons_self) | decide +kernel) hp e) (hr.mono (by decide)) (lamS_by (sc := defScope s__law_refuses) (by decide +kernel)) rfl (fun _ _ _ _ _ => rfl) (by intro Ar outer s H E f c' hr; exact (pe_call (ok_surely T TBs) (hr.mono (by decide)) (by rfl) T.g_surely T.F_surely.kp T.b_surely .nil (pass_e (takes_of rfl rfl rfl rfl)) (pa_cons (pe_tup pa_nil) (pa_cons (pv 3) pa_nil))))) pa_nil))))))
      (pss_cons (ps_set (i := 1) sc__law_refuses.nd rfl (by first | exact Or.inl rfl | exact Or.inr rfl) (pe_op op_addU (pv 1) (pe_lst (pa_cons (lam_ref (k := 6) T.F__law_refused sc__law_refused rfl T.x_BadArgument T.te_BadArgument rfl (by decide) rfl (Or.inl rfl) (fun _ _ _ _ _ _ => .all fun us hl => match us, hl with | [_], _ => rfl) T.g__law_refused (by rfl) TBs.1._law_refuses rfl (by first | exact List.mem_cons_self | decide +kernel) (fun p hp e => one_tab TBs.2.d (by first | exact List.mem_cons_self | exact List.mem_cons_of_mem _ List.mem_cons_self | exact List.mem_cons_of_mem _ (List.mem_cons_of_mem _ List.mem_cons_self) | decide +kernel) hp e) (hr.mono (by decide)) (lamS_by (sc := defScope s__law_refuses) (by decide +kernel)) rfl (fun _ _ _ _ _ => rfl) (by intro Ar outer s H E f c' hr; exact (pe_call (ok_possibly T TBs) (hr.mono (by decide)) (by rfl) T.g_possibly T.F_possibly.kp T.b_possibly .nil (pass_e (takes_of rfl rfl rfl rfl)) (pa_cons (pv 2) (pa_cons (pv 3) pa_nil))))) (pa_cons (lam_ref (k := 6) T.F__law_refused sc__law_refused rfl T.x_BadArgument T.te_BadArgument rfl (by decide) rfl (Or.inl rfl) (fun _ _ _ _ _ _ => .all fun us hl => match us, hl with | [_], _ => rfl) T.g__law_refused (by rfl) TBs.1._law_refuses rfl (by first | exact List.mem_cons_self | decide +kernel) (fun p hp e => one_tab TBs.2.d (by first | exact List.mem_cons_self | exact List.mem_cons_of_mem _ List.mem_cons_self | exact List.mem_cons_of_mem _ (List.mem_cons_of_mem _ List.mem_cons_self) | decide +kernel) hp e) (hr.mono (by decide)) (lamS_by (sc := defScope s__law_refuses) (by decide +kernel)) rfl (fun _ _ _ _ _ => rfl) (by intro Ar outer s H E f c' hr; exact (pe_call (ok_possibly T TBs) (hr.mono (by decide)) (by rfl) T.g_possibly T.F_possibly.kp T.b_possibly .nil (pass_e (takes_of rfl rfl rfl rfl)) (pa_cons (pe_tup pa_nil) (pa_cons (pv 3) pa_nil))))) (pa_cons (lam_ref (k := 6) T.F__law_refused sc__law_refused rfl T.x_BadArgument T.te_BadArgument rfl (by decide) rfl (Or.inl rfl) (fun _ _ _ _ _ _ => .all fun us hl => match us, hl with | [_], _ => rfl) T.g__law_refused (by rfl) TBs.1._law_refuses rfl (by first | exact List.mem_cons_self | decide +kernel) (fun p hp e => one_tab TBs.2.d (by first | exact List.mem_cons_self | exact List.mem_cons_of_mem _ List.mem_cons_self | exact List.mem_cons_of_mem _ (List.mem_cons_of_mem _ List.mem_cons_self) | decide +kernel) hp e) (hr.mono (by decide)) (lamS_by (sc := defScope s__law_refuses) (by decide +kernel)) rfl (fun _ _ _ _ _ => rfl) (by intro Ar outer s H E f c' hr; exact (pe_call (ok_least_blamed T TBs) (hr.mono (by decide)) (by rfl) T.g_least_blamed T.F_least_blamed.kp T.b_least_blamed .nil (pass_e (takes_of rfl rfl rfl rfl)) (pa_cons (pv 2) pa_nil)))) pa_nil))))))
      (pss_one (ps_ret (pe_cmpR (op_eqU hr.units) (pv 1) (pe_lst (pa_cons pe_str (pa_cons pe_str (pa_cons pe_str (pa_cons pe_str (pa_cons pe_str (pa_cons pe_str (pa_cons pe_str pa_nil)))))))) (nomark _)))))))
  · refine run_bodyS (n := 1) (by decide) (by rintro _ _ ⟨⟩ <;> rfl) h fun s o hR hv hE => ?_
    obtain ⟨v0, rfl⟩ := len1 hv
    cases hR with
    | mk h0 h1 => obtain rfl := pin_at hE; exact ⟨_, rd__law_refuses h0 h1, .rt (Lv.leave (by walk_at "lv") rfl)⟩
theorem ok__law_right (T : Tx P K mg A) (TBs : TBs base mg A ∧ Dif A) : FnOk P w K mg base (L2.CX P w) 10 A.a__law_right A.fd__law_right ["dice"] (spF K (R__law_right K A.C A.T)) := by
  refine T.F__law_right.okX sc__law_right (fun vs H Q E h => spf_len (by rintro _ _ ⟨⟩ <;> rfl) h) (fun cdv Ar outer s H vs Q E hr h => ⟨t__law_right K A.C A.T E, ?_, ?_⟩)
  · exact (pss_cons (ps_asg (pe_tup (pa_cons (pe_lc (own := [("street", 15)]) rfl sc__law_right.nd (pi_range1 (by rfl) T.n_range (pa_cons pe_int pa_nil)) (blkOk_by (own := [("street", 15)]) (N := ["dice", "truth", "rows", "turn", "sees", "is_true", "at", "callers", "most", "every", "due", "sure", "able", "least", "some", "street", "one"]) (sc := defScope s__law_right) (by decide +kernel)) (fun _ _ _ _ _ => (pg_name (i := 15) sc__law_right.nd rfl (Or.inl rfl))) (fun _ _ _ _ _ => (pts_one (pt_cmpR (op_eqU hr.units) (pe_call (ok__law_roll T TBs) (hr.mono (by decide)) (by rfl) T.g__law_roll T.F__law_roll.kp T.b__law_roll .nil passL (pa_cons (pv 0) (pa_cons pe_int pa_nil))) pe_int (nomark _)))) (fun _ _ _ _ _ => (pv 15))) (pa_cons (pe_lst pa_nil) pa_nil))) (pg_tup rfl (pgs_cons (pg_name (i := 1) sc__law_right.nd rfl (by first | exact Or.inl rfl | exact Or.inr rfl)) (pgs_cons (pg_name (i := 2) sc__law_right.nd rfl (by first | exact Or.inl rfl | exact Or.inr rfl)) pgs_nil))))
      (pss_cons (ps_for (passes_of rfl) rfl (pi_range1 (by rfl) T.n_range (pa_cons (pe_call (ok__law_pick T TBs) (hr.mono (by decide)) (by rfl) T.g__law_pick T.F__law_pick.kp T.b__law_pick .nil (pass_e (takes_of rfl rfl rfl rfl)) (pa_cons (pv 0) (pa_cons (pe_lst (pa_cons pe_int (pa_cons pe_int (pa_cons pe_int (pa_cons pe_int (pa_cons pe_int (pa_cons pe_int pa_nil))))))) pa_nil))) pa_nil)) (pg_name (i := 3) sc__law_right.nd rfl (by first | exact Or.inl rfl | exact Or.inr rfl)) (pss_cons (ps_set (i := 4) sc__law_right.nd rfl (by first | exact Or.inl rfl | exact Or.inr rfl) (pe_callTy call_tupU (by rfl) T.n_tuple (by decide +kernel) (pa_cons (pe_ss rfl (by rfl) T.n_sorted (by rfl) T.n_set (pe_lc (own := [("one", 16)]) rfl sc__law_right.nd (pi_range1 (by rfl) T.n_range (pa_cons (pe_call (ok__law_roll T TBs) (hr.mono (by decide)) (by rfl) T.g__law_roll T.F__law_roll.kp T.b__law_roll .nil (pass_e (takes_of rfl rfl rfl rfl)) (pa_cons (pv 0) (pa_cons pe_int pa_nil))) pa_nil)) (blkOk_by (own := [("one", 16)]) (N := ["dice", "truth", "rows", "turn", "sees", "is_true", "at", "callers", "most", "every", "due", "sure", "able", "least", "some", "street", "one"]) (sc := defScope s__law_right) (by decide +kernel)) (fun _ _ _ _ _ => (pg_name (i := 16) sc__law_right.nd rfl (Or.inl rfl))) (fun _ _ _ _ _ => pts_nil) (fun _ _ _ _ _ => (pe_call (ok__law_roll T TBs) (hr.mono (by decide)) (by rfl) T.g__law_roll T.F__law_roll.kp T.b__law_roll .nil passL (pa_cons (pv 0) (pa_cons pe_int pa_nil)))))) pa_nil)))
      (pss_one (ps_expr (pe_bm PySem.F.plainAttrs_list PySem.F.slot_list_append PySem.F.type_list_append mt_append (pv 2) (pa_cons (pe_tup (pa_cons (pv 4) (pa_cons (pe_cmpR (op_neU hr.units) (pe_lc (own := [("street", 15)]) rfl sc__law_right.nd (pi_seqU (pv 4)) (blkOk_by (own := [("street", 15)]) (N := ["dice", "truth", "rows", "turn", "sees", "is_true", "at", "callers", "most", "every", "due", "sure", "able", "least", "some", "street", "one"]) (sc := defScope s__law_right) (by decide +kernel)) (fun _ _ _ _ _ => (pg_name (i := 15) sc__law_right.nd rfl (Or.inl rfl))) (fun _ _ _ _ _ => (pts_one (pt_cmpR (op_inU (hu65 hr)) (pv 15) (pv 1) rfl))) (fun _ _ _ _ _ => (pv 15))) (pe_lst pa_nil) (nomark _)) pa_nil))) pa_nil))))))
      (pss_cons (ps_set (i := 5) sc__law_right.nd rfl (by first | exact Or.inl rfl | exact Or.inr rfl) (pe_or (pe_cmpR op_gtU (pe_call (ok__law_roll T TBs) (hr.mono (by decide)) (by rfl) T.g__law_roll T.F__law_roll.kp T.b__law_roll .nil (pass_e (takes_of rfl rfl rfl rfl)) (pa_cons (pv 0) (pa_cons pe_int pa_nil))) pe_int (nomark _)) (pe_one (pe_cmpR (op_eqU hr.units) (pv 2) (pe_lst pa_nil) (nomark _)))))
      (pss_cons (ps_if (pt_not (pt_val (pv 5))) (pss_cons (ps_set (i := 6) sc__law_right.nd rfl (by first | exact Or.inl rfl | exact Or.inr rfl) (pe_call (ok__law_roll T TBs) (hr.mono (by decide)) (by rfl) T.g__law_roll T.F__law_roll.kp T.b__law_roll .nil (pass_e (takes_of rfl rfl rfl rfl)) (pa_cons (pv 0) (pa_cons (pe_callB call_lenU (by rfl) T.n_len (by decide +kernel) (pa_cons (pv 2) pa_nil)) pa_nil))))
      (pss_one (ps_asg (pe_tup (pa_cons (pe_ix ix_U (pe_ix ix_U (pv 2) (pv 6) (fun _ _ => rfl)) pe_int (fun _ _ => rfl)) (pa_cons (pe_not (pe_ix ix_U (pe_ix ix_U (pv 2) (pv 6) (fun _ _ => rfl)) pe_int (fun _ _ => rfl))) pa_nil))) (pg_sub (pv 2) (pv 6) set_list)))) pss_nil)
      (pss_cons (ps_asg (pe_tup (pa_cons (pe_callTy call_tupU (by rfl) T.n_tuple (by decide +kernel) (pa_cons (pv 2) pa_nil)) (pa_cons (pe_call (ok__law_pick T TBs) (hr.mono (by decide)) (by rfl) T.g__law_pick T.F__law_pick.kp T.b__law_pick .nil (pass_e (takes_of rfl rfl rfl rfl)) (pa_cons (pv 0) (pa_cons (pe_lst (pa_cons pe_int (pa_cons pe_int (pa_cons pe_int (pa_cons pe_int (pa_cons pe_int pa_nil)))))) pa_nil))) pa_nil))) (pg_tup rfl (pgs_cons (pg_name (i := 7) sc__law_right.nd rfl (by first | exact Or.inl rfl | exact Or.inr rfl)) (pgs_cons (pg_name (i := 8) sc__law_right.nd rfl (by first | exact Or.inl rfl | exact Or.inr rfl)) pgs_nil))))
      (pss_cons (ps_setLc (i := 9) (own := [("some", 14)]) rfl sc__law_right.nd rfl rfl (sw_true rfl rfl rfl (by decide +kernel)) (pi_seqU (pe_call (ok__law_subsets T TBs) (hr.mono (by decide)) (by rfl) T.g__law_subsets T.F__law_subsets.kp T.b__law_subsets .nil (pass_e (takes_of rfl rfl rfl rfl)) (pa_cons pe_int (pa_cons pe_int pa_nil)))) (blkOk_by (own := [("some", 14)]) (N := ["dice", "truth", "rows", "turn", "sees", "is_true", "at", "callers", "most", "every", "due", "sure", "able", "least", "some", "street", "one"]) (sc := defScope s__law_right) (by decide +kernel)) (fun _ _ _ _ _ => (pg_name (i := 14) sc__law_right.nd rfl (Or.inl rfl))) (fun _ _ _ _ _ => (pts_one (pt_val (pe_call (ok__law_explains T TBs) (hr.mono (by decide)) (by rfl) T.g__law_explains T.F__law_explains.kp T.b__law_explains .nil passL (pa_cons (pv 7) (pa_cons (pv 14) pa_nil)))))) (fun _ _ _ _ _ => (pv 14)))
      (pss_cons (ps_set (i := 10) sc__law_right.nd rfl (by first | exact Or.inl rfl | exact Or.inr rfl) (pe_lc (own := [("some", 14)]) rfl sc__law_right.nd (pi_seqU (pv 9)) (blkOk_by (own := [("some", 14)]) (N := ["dice", "truth", "rows", "turn", "sees", "is_true", "at", "callers", "most", "every", "due", "sure", "able", "least", "some", "street", "one"]) (sc := defScope s__law_right) (by decide +kernel)) (fun _ _ _ _ _ => (pg_name (i := 14) sc__law_right.nd rfl (Or.inl rfl))) (fun _ _ _ _ _ => (pts_one (pt_cmpR op_leU (pe_callB call_lenU (by rfl) T.n_len (by decide +kernel) (pa_cons (pv 14) pa_nil)) (pv 8) (nomark _)))) (fun _ _ _ _ _ => (pv 14))))
      (pss_cons (ps_if (PW.pt (pw_or (pt_cmpR (op_neU hr.units) (pe_callTy call_listU (by rfl) T.n_list (by decide +kernel) (pa_cons (pe_call (ok_blamed T TBs) (hr.mono (by decide)) (by rfl) T.g_blamed T.F_blamed.kp T.b_blamed .nil (pass_e (takes_of rfl rfl rfl rfl)) (pa_cons (pv 7) (pa_cons (pv 8) pa_nil))) pa_nil)) (pv 10) (nomark _)) (pw_or1 (pt_cmpR (op_neU hr.units) (pe_callTy call_listU (by rfl) T.n_list (by decide +kernel) (pa_cons (pe_callM0 (ok_blamed T TBs) (hr.mono (by decide)) (by rfl) T.g_blamed T.F_blamed.kp T.kw_blamed_0_most_callers (pass_e (takes_of rfl rfl rfl rfl)) (pk_cons (pv 8) (pk_cons (pv 7) pk_nil))) pa_nil)) (pv 10) (nomark _))))) (pss_one (ps_ret pe_bl)) pss_nil)
      (pss_cons (ps_if (PW.pt (pw_and (pt_val (pv 5)) (pw_and1 (pt_cmpR (op_ninU (hu65 hr)) (pe_callTy call_tupU (by rfl) T.n_tuple (by decide +kernel) (pa_cons (pv 1) pa_nil)) (pv 9) rfl)))) (pss_one (ps_ret pe_bl)) pss_nil)
      (pss_cons (ps_setLc (i := 11) (own := [("street", 15)]) rfl sc__law_right.nd rfl rfl (sw_true rfl rfl rfl (by decide +kernel)) (pi_range1 (by rfl) T.n_range (pa_cons pe_int pa_nil)) (blkOk_by (own := [("street", 15)]) (N := ["dice", "truth", "rows", "turn", "sees", "is_true", "at", "callers", "most", "every", "due", "sure", "able", "least", "some", "street", "one"]) (sc := defScope s__law_right) (by decide +kernel)) (fun _ _ _ _ _ => (pg_name (i := 15) sc__law_right.nd rfl (by first | exact Or.inl rfl | exact Or.inr rfl))) (fun _ _ _ _ _ => (pts_one (PW.pt (pw_and (pt_cmpR (op_neU hr.units) (pv 10) (pe_lst pa_nil) (nomark _)) (pw_and1 (pt_cmpR (op_eqU hr.units) (pe_lc (own := [("some", 14)]) rfl sc__law_right.nd (pi_seqU (pv 10)) (blkOk_by (own := [("some", 14)]) (by rfl)) (fun _ _ _ _ _ => (pg_name (i := 14) sc__law_right.nd rfl (Or.inl rfl))) (fun _ _ _ _ _ => (pts_one (pt_cmpR (op_ninU (hu65 hr)) (pv 15) (pv 14) rfl))) (fun _ _ _ _ _ => (pv 14))) (pe_lst pa_nil) (nomark _))))))) (fun _ _ _ _ _ => (pv 15)))
      (pss_cons (ps_setLc (i := 12) (own := [("street", 15)]) rfl sc__law_right.nd rfl rfl (sw_true rfl rfl rfl (by decide +kernel)) (pi_range1 (by rfl) T.n_range (pa_cons pe_int pa_nil)) (blkOk_by (own := [("street", 15)]) (N := ["dice", "truth", "rows", "turn", "sees", "is_true", "at", "callers", "most", "every", "due", "sure", "able", "least", "some", "street", "one"]) (sc := defScope s__law_right) (by decide +kernel)) (fun _ _ _ _ _ => (pg_name (i := 15) sc__law_right.nd rfl (by first | exact Or.inl rfl | exact Or.inr rfl))) (fun _ _ _ _ _ => (pts_one (pt_cmpR (op_neU hr.units) (pe_lc (own := [("some", 14)]) rfl sc__law_right.nd (pi_seqU (pv 10)) (blkOk_by (own := [("some", 14)]) (by rfl)) (fun _ _ _ _ _ => (pg_name (i := 14) sc__law_right.nd rfl (Or.inl rfl))) (fun _ _ _ _ _ => (pts_one (pt_cmpR (op_inU (hu65 hr)) (pv 15) (pv 14) rfl))) (fun _ _ _ _ _ => (pv 14))) (pe_lst pa_nil) (nomark _)))) (fun _ _ _ _ _ => (pv 15)))
      (pss_cons (ps_if (PW.pt (pw_or (pt_cmpR (op_neU hr.units) (pe_callTy call_listU (by rfl) T.n_list (by decide +kernel) (pa_cons (pe_call (ok_surely T TBs) (hr.mono (by decide)) (by rfl) T.g_surely T.F_surely.kp T.b_surely .nil (pass_e (takes_of rfl rfl rfl rfl)) (pa_cons (pv 7) (pa_cons (pv 8) pa_nil))) pa_nil)) (pv 11) (nomark _)) (pw_or (pt_cmpR (op_neU hr.units) (pe_callTy call_listU (by rfl) T.n_list (by decide +kernel) (pa_cons (pe_call (ok_possibly T TBs) (hr.mono (by decide)) (by rfl) T.g_possibly T.F_possibly.kp T.b_possibly .nil (pass_e (takes_of rfl rfl rfl rfl)) (pa_cons (pv 7) (pa_cons (pv 8) pa_nil))) pa_nil)) (pv 12) (nomark _)) (pw_or1 (pt_cmpR (op_neU hr.units) (pe_callM0 (ok_surely T TBs) (hr.mono (by decide)) (by rfl) T.g_surely T.F_surely.kp T.kw_surely_0_most_callers (pass_e (takes_of rfl rfl rfl rfl)) (pk_cons (pv 8) (pk_cons (pv 7) pk_nil))) (pe_callTy call_tupU (by rfl) T.n_tuple (by decide +kernel) (pa_cons (pv 11) pa_nil)) (nomark _)))))) (pss_one (ps_ret pe_bl)) pss_nil)
      (pss_cons (ps_set (i := 13) sc__law_right.nd rfl (by first | exact Or.inl rfl | exact Or.inr rfl) (pe_ifExp (pt_cmpR (op_neU hr.units) (pv 9) (pe_lst pa_nil) (nomark _)) (pe_callB (call_minU rfl) (by rfl) T.n_min (by decide +kernel) (pa_cons (pe_lc (own := [("some", 14)]) rfl sc__law_right.nd (pi_seqU (pv 9)) (blkOk_by (own := [("some", 14)]) (N := ["dice", "truth", "rows", "turn", "sees", "is_true", "at", "callers", "most", "every", "due", "sure", "able", "least", "some", "street", "one"]) (sc := defScope s__law_right) (by decide +kernel)) (fun _ _ _ _ _ => (pg_name (i := 14) sc__law_right.nd rfl (Or.inl rfl))) (fun _ _ _ _ _ => pts_nil) (fun _ _ _ _ _ => (pe_callB call_lenU (by rfl) T.n_len (by decide +kernel) (pa_cons (pv 14) pa_nil)))) pa_nil)) pe_non))
      (pss_one (ps_ret (pe_and (pe_cmpR (op_eqU hr.units) (pe_call (ok_least_blamed T TBs) (hr.mono (by decide)) (by rfl) T.g_least_blamed T.F_least_blamed.kp T.b_least_blamed .nil (pass_e (takes_of rfl rfl rfl rfl)) (pa_cons (pv 7) pa_nil)) (pv 13) (nomark _)) (pe_and (pe_cmpR (op_eqU hr.units) (pe_callM0 (ok_least_blamed T TBs) (hr.mono (by decide)) (by rfl) T.g_least_blamed T.F_least_blamed.kp T.kw_least_blamed_0_callers (pass_e (takes_of rfl rfl rfl rfl)) (pk_cons (pv 7) pk_nil)) (pv 13) (nomark _)) (pe_and (pe_cmpR (op_eqU hr.units) (pe_callM0 (ok_possibly T TBs) (hr.mono (by decide)) (by rfl) T.g_possibly T.F_possibly.kp T.kw_possibly_0_most_callers (pass_e (takes_of rfl rfl rfl rfl)) (pk_cons (pv 8) (pk_cons (pv 7) pk_nil))) (pe_callTy call_tupU (by rfl) T.n_tuple (by decide +kernel) (pa_cons (pv 12) pa_nil)) (nomark _)) (pe_one (pe_call (ok__law_refuses T TBs) (hr.mono (by decide)) (by rfl) T.g__law_refuses T.F__law_refuses.kp T.b__law_refuses .nil (pass_e (takes_of rfl rfl rfl rfl)) (pa_cons (pv 0) pa_nil)))))))))))))))))))))
  · refine run_bodyS (n := 1) (by decide) (by rintro _ _ ⟨⟩ <;> rfl) h fun s o hR hv hE => ?_
    obtain ⟨v0, rfl⟩ := len1 hv
    cases hR with
    | mk h => obtain rfl := pin_at hE; exact ⟨_, rd__law_right h, .rt (Lv.leave (by walk_at "lv") rfl)⟩
theorem ok_law (T : Tx P K mg A) (TBs : TBs base mg A ∧ Dif A) : FnOk P w K mg base (L2.CX P w) 11 A.a_law A.fd_law ["script"] (spF K (R_law K A.C A.T)) := by
  refine T.F_law.okX sc_law (fun vs H Q E h => spf_len (by rintro _ _ ⟨⟩ <;> rfl) h) (fun cdv Ar outer s H vs Q E hr h => ⟨t_law K A.C A.T E, ?_, ?_⟩)
  · exact (pss_cons (ps_for (passes_of rfl) rfl (pi_range1 (by rfl) T.n_range (pa_cons (pe_callB (call_maxU rfl) (by rfl) T.n_max (by decide +kernel) (pa_cons pe_int (pa_cons (pe_callB (call_minU rfl) (by rfl) T.n_min (by decide +kernel) (pa_cons pe_int (pa_cons (pe_callB call_lenU (by rfl) T.n_len (by decide +kernel) (pa_cons (pv 0) pa_nil)) pa_nil))) pa_nil))) pa_nil)) (pg_name (i := 1) sc_law.nd rfl (by first | exact Or.inl rfl | exact Or.inr rfl)) (pss_one (ps_if (pt_not (pt_val (pe_call (ok__law_right T TBs) (hr.mono (by decide)) (by rfl) T.g__law_right T.F__law_right.kp T.b__law_right .nil (pass_e (takes_of rfl rfl rfl rfl)) (pa_cons (pe_call (ok__law_dice T TBs) (hr.mono (by decide)) (by rfl) T.g__law_dice T.F__law_dice.kp T.b__law_dice .nil (pass_e (takes_of rfl rfl rfl rfl)) (pa_cons (pv 0) (pa_cons (pv 1) pa_nil))) pa_nil)))) (pss_one (ps_ret pe_bl)) pss_nil)))
      (pss_one (ps_ret (pe_and (pe_cmpR (op_eqU hr.units) (pe_call (ok_blamed T TBs) (hr.mono (by decide)) (by rfl) T.g_blamed T.F_blamed.kp T.b_blamed .nil (pass_e (takes_of rfl rfl rfl rfl)) (pa_cons (pe_tup pa_nil) (pa_cons pe_int pa_nil))) (pe_tup (pa_cons (pe_tup pa_nil) pa_nil)) (nomark _)) (pe_one (pe_cmpR op_isU (pe_call (ok_least_blamed T TBs) (hr.mono (by decide)) (by rfl) T.g_least_blamed T.F_least_blamed.kp T.b_least_blamed .nil (pass_e (takes_of rfl rfl rfl rfl)) (pa_cons (pe_tup (pa_cons (pe_tup (pa_cons (pe_tup pa_nil) (pa_cons pe_bl pa_nil))) pa_nil)) pa_nil)) pe_non (nomark _)))))))
  · refine run_bodyS (n := 1) (by decide) (by rintro _ _ ⟨⟩ <;> rfl) h fun s o hR hv hE => ?_
    obtain ⟨v0, rfl⟩ := len1 hv
    cases hR with
    | mk h => exact ⟨_, rd_law h, .rt (Lv.leave (by walk_at "lv") rfl)⟩
end
theorem exm_self {K : PySem.W.Frag} {S : Addr} (h1 : PySem.W.subIn K (.ref S) (.type "BaseException") = some true) (h2 : PySem.W.isClsIn K S = true) (h3 : PySem.W.typeIn K (.ref S) = some (.type "type")) (h4 : PySem.W.subIn K (.ref S) (.ref S) = some true) : PySem.W.exmOne K (.ref S) (.ref S) = some true := by
  have e1 : (PySem.W.subIn K (.ref S) (.type "BaseException") == some true) = true := by rw [h1] <;> rfl
  have e2 : ((PySem.W.clsIn K S).isSome && PySem.W.typeIn K (.ref S) == some (.type "type")) = true := by
    have h2' : (PySem.W.clsIn K S).isSome = true := h2
    rw [h2', h3] <;> rfl
  show (if (PySem.W.subIn K (.ref S) (.type "BaseException") == some true) = true then (if ((PySem.W.clsIn K S).isSome && PySem.W.typeIn K (.ref S) == some (.type "type")) = true then PySem.W.subIn K (.ref S) (.ref S) else none) else none) = some true
  rw [if_pos e1, if_pos e2]
  exact h4
theorem all_mk {l : PySem.W.OpenLaw} {w : World} {K : PySem.W.Frag} {h : Heap} {mg : Str → Option Value} {fa : Addr} (X : K.In h) (G : h.Ns mainGlobals mg) (hfa : mg "law" = some (.ref fa)) {P : Program} (hP : P = l.prog)
    {C_BadArgument f_BadArgument cda_BadArgument cc_BadArgument N_BadArgument : Addr} {nm_BadArgument q_BadArgument : Str} {bs_BadArgument bm_BadArgument : List Value} {sn_BadArgument : List Str} {sub_BadArgument : List Value} {ab_BadArgument : Bool} {col_BadArgument : Option Bool} {dd_BadArgument : Option Addr} {k0_BadArgument k1_BadArgument k2_BadArgument k3_BadArgument k5_BadArgument : Option Value} {oc_BadArgument ccl_BadArgument ccc_BadArgument ct_BadArgument doc_BadArgument pm_BadArgument : Value} {od_BadArgument cdd_BadArgument ccd_BadArgument an_BadArgument : Option Addr} {osl_BadArgument ccs_BadArgument ccv_BadArgument : Array (Option Value)} {vs_BadArgument : Array Value} {fi_BadArgument ql_BadArgument : Str} {tf_BadArgument : Tok} {p1_BadArgument p2_BadArgument pa_BadArgument pb_BadArgument pc_BadArgument pd_BadArgument pe_BadArgument pf_BadArgument pg_BadArgument ph_BadArgument pi_BadArgument pj_BadArgument : Pos}
    {a_is_integer : Addr} {od_is_integer an_is_integer : Option Addr} {oc_is_integer kV_is_integer dc_is_integer pm_is_integer ct_is_integer cd_is_integer : Value} {sl_is_integer : Array (Option Value)}
    {a_is_in : Addr} {od_is_in an_is_in : Option Addr} {oc_is_in kV_is_in dc_is_in pm_is_in ct_is_in cd_is_in : Value} {sl_is_in : Array (Option Value)}
    {a_is_tuple_of : Addr} {od_is_tuple_of an_is_tuple_of : Option Addr} {oc_is_tuple_of kV_is_tuple_of dc_is_tuple_of pm_is_tuple_of ct_is_tuple_of cd_is_tuple_of : Value} {sl_is_tuple_of : Array (Option Value)}
    {a_are_at_most : Addr} {od_are_at_most an_are_at_most : Option Addr} {oc_are_at_most kV_are_at_most dc_are_at_most pm_are_at_most ct_are_at_most cd_are_at_most : Value} {sl_are_at_most : Array (Option Value)}
    {a_is_ascending : Addr} {od_is_ascending an_is_ascending : Option Addr} {oc_is_ascending kV_is_ascending dc_is_ascending pm_is_ascending ct_is_ascending cd_is_ascending : Value} {sl_is_ascending : Array (Option Value)}
    {a_demand : Addr} {od_demand an_demand : Option Addr} {oc_demand kV_demand dc_demand pm_demand ct_demand cd_demand : Value} {sl_demand : Array (Option Value)}
    {a_choices_of : Addr} {od_choices_of an_choices_of : Option Addr} {oc_choices_of kV_choices_of dc_choices_of pm_choices_of ct_choices_of cd_choices_of : Value} {sl_choices_of : Array (Option Value)}
    {a_are_seen : Addr} {od_are_seen an_are_seen : Option Addr} {oc_are_seen kV_are_seen dc_are_seen pm_are_seen ct_are_seen cd_are_seen : Value} {sl_are_seen : Array (Option Value)}
    {a_are_callers : Addr} {od_are_callers an_are_callers : Option Addr} {oc_are_callers kV_are_callers dc_are_callers pm_are_callers ct_are_callers cd_are_callers : Value} {sl_are_callers : Array (Option Value)}
    {a_explains : Addr} {od_explains an_explains : Option Addr} {oc_explains kV_explains dc_explains pm_explains ct_explains cd_explains : Value} {sl_explains : Array (Option Value)}
    {a_blamed_of : Addr} {od_blamed_of an_blamed_of : Option Addr} {oc_blamed_of kV_blamed_of dc_blamed_of pm_blamed_of ct_blamed_of cd_blamed_of : Value} {sl_blamed_of : Array (Option Value)}
    {a_blamed : Addr} {od_blamed an_blamed : Option Addr} {oc_blamed kV_blamed dc_blamed pm_blamed ct_blamed cd_blamed : Value} {sl_blamed : Array (Option Value)}
    {a_surely : Addr} {od_surely an_surely : Option Addr} {oc_surely kV_surely dc_surely pm_surely ct_surely cd_surely : Value} {sl_surely : Array (Option Value)}
    {a_possibly : Addr} {od_possibly an_possibly : Option Addr} {oc_possibly kV_possibly dc_possibly pm_possibly ct_possibly cd_possibly : Value} {sl_possibly : Array (Option Value)}
    {a_least_blamed : Addr} {od_least_blamed an_least_blamed : Option Addr} {oc_least_blamed kV_least_blamed dc_least_blamed pm_least_blamed ct_least_blamed cd_least_blamed : Value} {sl_least_blamed : Array (Option Value)}
    {a__law_dice : Addr} {od__law_dice an__law_dice : Option Addr} {oc__law_dice kV__law_dice dc__law_dice pm__law_dice ct__law_dice cd__law_dice : Value} {sl__law_dice : Array (Option Value)}
    {a__law_roll : Addr} {od__law_roll an__law_roll : Option Addr} {oc__law_roll kV__law_roll dc__law_roll pm__law_roll ct__law_roll cd__law_roll : Value} {sl__law_roll : Array (Option Value)}
    {a__law_pick : Addr} {od__law_pick an__law_pick : Option Addr} {oc__law_pick kV__law_pick dc__law_pick pm__law_pick ct__law_pick cd__law_pick : Value} {sl__law_pick : Array (Option Value)}
    {a__law_refused : Addr} {od__law_refused an__law_refused : Option Addr} {oc__law_refused kV__law_refused dc__law_refused pm__law_refused ct__law_refused cd__law_refused : Value} {sl__law_refused : Array (Option Value)}
    {a__law_subsets : Addr} {od__law_subsets an__law_subsets : Option Addr} {oc__law_subsets kV__law_subsets dc__law_subsets pm__law_subsets ct__law_subsets cd__law_subsets : Value} {sl__law_subsets : Array (Option Value)}
    {a__law_explains : Addr} {od__law_explains an__law_explains : Option Addr} {oc__law_explains kV__law_explains dc__law_explains pm__law_explains ct__law_explains cd__law_explains : Value} {sl__law_explains : Array (Option Value)}
    {a__law_refuses : Addr} {od__law_refuses an__law_refuses : Option Addr} {oc__law_refuses kV__law_refuses dc__law_refuses pm__law_refuses ct__law_refuses : Value} {sl__law_refuses : Array (Option Value)}
    {c__law_refuses p__law_refuses : Addr} {oq__law_refuses : Value} {oe__law_refuses : Option Addr} {vs__law_refuses : Array Value} {os__law_refuses : Array (Option Value)}
    {a__law_right : Addr} {od__law_right an__law_right : Option Addr} {oc__law_right kV__law_right dc__law_right pm__law_right ct__law_right cd__law_right : Value} {sl__law_right : Array (Option Value)}
    {a_law : Addr} {od_law an_law : Option Addr} {oc_law kV_law dc_law pm_law ct_law cd_law : Value} {sl_law : Array (Option Value)}
    {v_MOST_STREET : Value}
    {v_MOST_CALLERS : Value}
    {v_MOST_SEEN : Value}
    (gC_BadArgument : PySem.W.nsIn K mainGlobals "BadArgument" = some (some (.ref C_BadArgument)))
    (cl_BadArgument : K.lookup C_BadArgument = some (excClassObj nm_BadArgument q_BadArgument C_BadArgument N_BadArgument bs_BadArgument bm_BadArgument true sn_BadArgument sub_BadArgument ab_BadArgument col_BadArgument dd_BadArgument k0_BadArgument k1_BadArgument k2_BadArgument k3_BadArgument k5_BadArgument "ValueError.__new__"))
    (rf_BadArgument : PySem.HandSPX.refsVE bm_BadArgument = true)
    (sa_BadArgument : PySem.W.findIn K (.ref C_BadArgument) "__setattr__" = some (some (.builtin "object.__setattr__")))
    (ga_BadArgument : PySem.W.findIn K (.ref C_BadArgument) "__getattribute__" = some (some (.builtin "BaseException.__getattribute__")))
    (gg_BadArgument : PySem.W.findIn K (.ref C_BadArgument) "__getattr__" = some none)
    (ex_BadArgument : PySem.W.subIn K (.ref C_BadArgument) (.type "BaseException") = some true)
    (hd_BadArgument : PySem.W.hasDictIn K C_BadArgument = true)
    (no_BadArgument : PySem.W.findIn K (.ref C_BadArgument) "name" = some none)
    (iC_BadArgument : PySem.W.findIn K (.ref C_BadArgument) "__init__" = some (some (.ref f_BadArgument)))
    (tC_BadArgument : PySem.W.typeIn K (.ref f_BadArgument) = some (.type "function"))
    (kC_BadArgument : PySem.W.keepIn K (.ref C_BadArgument) = true)
    (ty_BadArgument : PySem.W.typeIn K (.ref C_BadArgument) = some (.type "type"))
    (isC_BadArgument : PySem.W.isClsIn K C_BadArgument = true)
    (su_BadArgument : PySem.W.ks_superIn K C_BadArgument C_BadArgument "__init__" = some (some (.builtin "ValueError.__init__")))
    (sV_BadArgument : PySem.W.subIn K (.ref C_BadArgument) (.type "ValueError") = some true)
    (sC_BadArgument : PySem.W.subIn K (.ref C_BadArgument) (.ref C_BadArgument) = some true)
    (mC_BadArgument : PySem.W.mroIn K C_BadArgument (.ref C_BadArgument) = some true)
    (l_BadArgument : K.lookup f_BadArgument = some ⟨oc_BadArgument, od_BadArgument, .func (PySem.W.ksFn "__init__" ql_BadArgument (BX.iA "name" p1_BadArgument p2_BadArgument) (BX.iB "name" pa_BadArgument pb_BadArgument pc_BadArgument pd_BadArgument pe_BadArgument pf_BadArgument pg_BadArgument ph_BadArgument pi_BadArgument pj_BadArgument) (BX.iS "name") .none .none doc_BadArgument pm_BadArgument an_BadArgument (.ref cda_BadArgument) ct_BadArgument cc_BadArgument), osl_BadArgument⟩)
    (c_BadArgument : PySem.W.codeIn K (.ref cda_BadArgument) ql_BadArgument = true)
    (d_BadArgument : K.lookup cda_BadArgument = some ⟨ccl_BadArgument, cdd_BadArgument, .fields vs_BadArgument, ccs_BadArgument⟩)
    (e_BadArgument : vs_BadArgument[2]? = some (.str fi_BadArgument tf_BadArgument))
    (ff_BadArgument : ((P.main.file : Str) == fi_BadArgument) = true)
    (cc__BadArgument : K.lookup cc_BadArgument = some ⟨ccc_BadArgument, ccd_BadArgument, .cell (some (.ref C_BadArgument)), ccv_BadArgument⟩)
    (ln_BadArgument : (pc_BadArgument.endLine == pe_BadArgument.line) = true)
    (sup : PySem.W.nsIn K mainGlobals "super" = some none)
    (any : PySem.W.nsIn K cStatics "thirdparty.any" = some none)
    (tsup : (P.main.scope.names.lookup ("super" : Str)).isSome = false)
    (n_abs : PySem.W.nsIn K mainGlobals "abs" = some none)
    (n_all : PySem.W.nsIn K mainGlobals "all" = some none)
    (n_any : PySem.W.nsIn K mainGlobals "any" = some none)
    (n_bool : PySem.W.nsIn K mainGlobals "bool" = some none)
    (n_int : PySem.W.nsIn K mainGlobals "int" = some none)
    (n_isinstance : PySem.W.nsIn K mainGlobals "isinstance" = some none)
    (n_len : PySem.W.nsIn K mainGlobals "len" = some none)
    (n_list : PySem.W.nsIn K mainGlobals "list" = some none)
    (n_max : PySem.W.nsIn K mainGlobals "max" = some none)
    (n_min : PySem.W.nsIn K mainGlobals "min" = some none)
    (n_range : PySem.W.nsIn K mainGlobals "range" = some none)
    (n_reversed : PySem.W.nsIn K mainGlobals "reversed" = some none)
    (n_set : PySem.W.nsIn K mainGlobals "set" = some none)
    (n_sorted : PySem.W.nsIn K mainGlobals "sorted" = some none)
    (n_tuple : PySem.W.nsIn K mainGlobals "tuple" = some none)
    (n_zip : PySem.W.nsIn K mainGlobals "zip" = some none)
    (ga_is_integer : PySem.W.nsIn K mainGlobals "is_integer" = some (some (.ref a_is_integer)))
    (l_is_integer : K.lookup a_is_integer = some ⟨oc_is_integer, od_is_integer, .func (PySem.W.fnOf "is_integer" "is_integer" (defArgs s_is_integer) (defBody s_is_integer) (defScope s_is_integer) .none kV_is_integer dc_is_integer pm_is_integer an_is_integer cd_is_integer ct_is_integer), sl_is_integer⟩)
    (ci_is_integer : PySem.W.codeIn K cd_is_integer "is_integer" = true)
    (k_is_integer : PySem.W.keepIn K (.ref a_is_integer) = true)
    (ga_is_in : PySem.W.nsIn K mainGlobals "is_in" = some (some (.ref a_is_in)))
    (l_is_in : K.lookup a_is_in = some ⟨oc_is_in, od_is_in, .func (PySem.W.fnOf "is_in" "is_in" (defArgs s_is_in) (defBody s_is_in) (defScope s_is_in) .none kV_is_in dc_is_in pm_is_in an_is_in cd_is_in ct_is_in), sl_is_in⟩)
    (ci_is_in : PySem.W.codeIn K cd_is_in "is_in" = true)
    (k_is_in : PySem.W.keepIn K (.ref a_is_in) = true)
    (ga_is_tuple_of : PySem.W.nsIn K mainGlobals "is_tuple_of" = some (some (.ref a_is_tuple_of)))
    (l_is_tuple_of : K.lookup a_is_tuple_of = some ⟨oc_is_tuple_of, od_is_tuple_of, .func (PySem.W.fnOf "is_tuple_of" "is_tuple_of" (defArgs s_is_tuple_of) (defBody s_is_tuple_of) (defScope s_is_tuple_of) .none kV_is_tuple_of dc_is_tuple_of pm_is_tuple_of an_is_tuple_of cd_is_tuple_of ct_is_tuple_of), sl_is_tuple_of⟩)
    (ci_is_tuple_of : PySem.W.codeIn K cd_is_tuple_of "is_tuple_of" = true)
    (k_is_tuple_of : PySem.W.keepIn K (.ref a_is_tuple_of) = true)
    (ga_are_at_most : PySem.W.nsIn K mainGlobals "are_at_most" = some (some (.ref a_are_at_most)))
    (l_are_at_most : K.lookup a_are_at_most = some ⟨oc_are_at_most, od_are_at_most, .func (PySem.W.fnOf "are_at_most" "are_at_most" (defArgs s_are_at_most) (defBody s_are_at_most) (defScope s_are_at_most) .none kV_are_at_most dc_are_at_most pm_are_at_most an_are_at_most cd_are_at_most ct_are_at_most), sl_are_at_most⟩)
    (ci_are_at_most : PySem.W.codeIn K cd_are_at_most "are_at_most" = true)
    (k_are_at_most : PySem.W.keepIn K (.ref a_are_at_most) = true)
    (ga_is_ascending : PySem.W.nsIn K mainGlobals "is_ascending" = some (some (.ref a_is_ascending)))
    (l_is_ascending : K.lookup a_is_ascending = some ⟨oc_is_ascending, od_is_ascending, .func (PySem.W.fnOf "is_ascending" "is_ascending" (defArgs s_is_ascending) (defBody s_is_ascending) (defScope s_is_ascending) .none kV_is_ascending dc_is_ascending pm_is_ascending an_is_ascending cd_is_ascending ct_is_ascending), sl_is_ascending⟩)
    (ci_is_ascending : PySem.W.codeIn K cd_is_ascending "is_ascending" = true)
    (k_is_ascending : PySem.W.keepIn K (.ref a_is_ascending) = true)
    (ga_demand : PySem.W.nsIn K mainGlobals "demand" = some (some (.ref a_demand)))
    (l_demand : K.lookup a_demand = some ⟨oc_demand, od_demand, .func (PySem.W.fnOf "demand" "demand" (defArgs s_demand) (defBody s_demand) (defScope s_demand) .none kV_demand dc_demand pm_demand an_demand cd_demand ct_demand), sl_demand⟩)
    (ci_demand : PySem.W.codeIn K cd_demand "demand" = true)
    (k_demand : PySem.W.keepIn K (.ref a_demand) = true)
    (ga_choices_of : PySem.W.nsIn K mainGlobals "choices_of" = some (some (.ref a_choices_of)))
    (l_choices_of : K.lookup a_choices_of = some ⟨oc_choices_of, od_choices_of, .func (PySem.W.fnOf "choices_of" "choices_of" (defArgs s_choices_of) (defBody s_choices_of) (defScope s_choices_of) .none kV_choices_of dc_choices_of pm_choices_of an_choices_of cd_choices_of ct_choices_of), sl_choices_of⟩)
    (ci_choices_of : PySem.W.codeIn K cd_choices_of "choices_of" = true)
    (k_choices_of : PySem.W.keepIn K (.ref a_choices_of) = true)
    (ga_are_seen : PySem.W.nsIn K mainGlobals "are_seen" = some (some (.ref a_are_seen)))
    (l_are_seen : K.lookup a_are_seen = some ⟨oc_are_seen, od_are_seen, .func (PySem.W.fnOf "are_seen" "are_seen" (defArgs s_are_seen) (defBody s_are_seen) (defScope s_are_seen) .none kV_are_seen dc_are_seen pm_are_seen an_are_seen cd_are_seen ct_are_seen), sl_are_seen⟩)
    (ci_are_seen : PySem.W.codeIn K cd_are_seen "are_seen" = true)
    (k_are_seen : PySem.W.keepIn K (.ref a_are_seen) = true)
    (ga_are_callers : PySem.W.nsIn K mainGlobals "are_callers" = some (some (.ref a_are_callers)))
    (l_are_callers : K.lookup a_are_callers = some ⟨oc_are_callers, od_are_callers, .func (PySem.W.fnOf "are_callers" "are_callers" (defArgs s_are_callers) (defBody s_are_callers) (defScope s_are_callers) .none kV_are_callers dc_are_callers pm_are_callers an_are_callers cd_are_callers ct_are_callers), sl_are_callers⟩)
    (ci_are_callers : PySem.W.codeIn K cd_are_callers "are_callers" = true)
    (k_are_callers : PySem.W.keepIn K (.ref a_are_callers) = true)
    (ga_explains : PySem.W.nsIn K mainGlobals "explains" = some (some (.ref a_explains)))
    (l_explains : K.lookup a_explains = some ⟨oc_explains, od_explains, .func (PySem.W.fnOf "explains" "explains" (defArgs s_explains) (defBody s_explains) (defScope s_explains) .none kV_explains dc_explains pm_explains an_explains cd_explains ct_explains), sl_explains⟩)
    (ci_explains : PySem.W.codeIn K cd_explains "explains" = true)
    (k_explains : PySem.W.keepIn K (.ref a_explains) = true)
    (ga_blamed_of : PySem.W.nsIn K mainGlobals "blamed_of" = some (some (.ref a_blamed_of)))
    (l_blamed_of : K.lookup a_blamed_of = some ⟨oc_blamed_of, od_blamed_of, .func (PySem.W.fnOf "blamed_of" "blamed_of" (defArgs s_blamed_of) (defBody s_blamed_of) (defScope s_blamed_of) .none kV_blamed_of dc_blamed_of pm_blamed_of an_blamed_of cd_blamed_of ct_blamed_of), sl_blamed_of⟩)
    (ci_blamed_of : PySem.W.codeIn K cd_blamed_of "blamed_of" = true)
    (k_blamed_of : PySem.W.keepIn K (.ref a_blamed_of) = true)
    (ga_blamed : PySem.W.nsIn K mainGlobals "blamed" = some (some (.ref a_blamed)))
    (l_blamed : K.lookup a_blamed = some ⟨oc_blamed, od_blamed, .func (PySem.W.fnOf "blamed" "blamed" (defArgs s_blamed) (defBody s_blamed) (defScope s_blamed) .none kV_blamed dc_blamed pm_blamed an_blamed cd_blamed ct_blamed), sl_blamed⟩)
    (ci_blamed : PySem.W.codeIn K cd_blamed "blamed" = true)
    (k_blamed : PySem.W.keepIn K (.ref a_blamed) = true)
    (ga_surely : PySem.W.nsIn K mainGlobals "surely" = some (some (.ref a_surely)))
    (l_surely : K.lookup a_surely = some ⟨oc_surely, od_surely, .func (PySem.W.fnOf "surely" "surely" (defArgs s_surely) (defBody s_surely) (defScope s_surely) .none kV_surely dc_surely pm_surely an_surely cd_surely ct_surely), sl_surely⟩)
    (ci_surely : PySem.W.codeIn K cd_surely "surely" = true)
    (k_surely : PySem.W.keepIn K (.ref a_surely) = true)
    (ga_possibly : PySem.W.nsIn K mainGlobals "possibly" = some (some (.ref a_possibly)))
    (l_possibly : K.lookup a_possibly = some ⟨oc_possibly, od_possibly, .func (PySem.W.fnOf "possibly" "possibly" (defArgs s_possibly) (defBody s_possibly) (defScope s_possibly) .none kV_possibly dc_possibly pm_possibly an_possibly cd_possibly ct_possibly), sl_possibly⟩)
    (ci_possibly : PySem.W.codeIn K cd_possibly "possibly" = true)
    (k_possibly : PySem.W.keepIn K (.ref a_possibly) = true)
    (ga_least_blamed : PySem.W.nsIn K mainGlobals "least_blamed" = some (some (.ref a_least_blamed)))
    (l_least_blamed : K.lookup a_least_blamed = some ⟨oc_least_blamed, od_least_blamed, .func (PySem.W.fnOf "least_blamed" "least_blamed" (defArgs s_least_blamed) (defBody s_least_blamed) (defScope s_least_blamed) .none kV_least_blamed dc_least_blamed pm_least_blamed an_least_blamed cd_least_blamed ct_least_blamed), sl_least_blamed⟩)
    (ci_least_blamed : PySem.W.codeIn K cd_least_blamed "least_blamed" = true)
    (k_least_blamed : PySem.W.keepIn K (.ref a_least_blamed) = true)
    (ga__law_dice : PySem.W.nsIn K mainGlobals "_law_dice" = some (some (.ref a__law_dice)))
    (l__law_dice : K.lookup a__law_dice = some ⟨oc__law_dice, od__law_dice, .func (PySem.W.fnOf "_law_dice" "_law_dice" (defArgs s__law_dice) (defBody s__law_dice) (defScope s__law_dice) .none kV__law_dice dc__law_dice pm__law_dice an__law_dice cd__law_dice ct__law_dice), sl__law_dice⟩)
    (ci__law_dice : PySem.W.codeIn K cd__law_dice "_law_dice" = true)
    (k__law_dice : PySem.W.keepIn K (.ref a__law_dice) = true)
    (ga__law_roll : PySem.W.nsIn K mainGlobals "_law_roll" = some (some (.ref a__law_roll)))
    (l__law_roll : K.lookup a__law_roll = some ⟨oc__law_roll, od__law_roll, .func (PySem.W.fnOf "_law_roll" "_law_roll" (defArgs s__law_roll) (defBody s__law_roll) (defScope s__law_roll) .none kV__law_roll dc__law_roll pm__law_roll an__law_roll cd__law_roll ct__law_roll), sl__law_roll⟩)
    (ci__law_roll : PySem.W.codeIn K cd__law_roll "_law_roll" = true)
    (k__law_roll : PySem.W.keepIn K (.ref a__law_roll) = true)
    (ga__law_pick : PySem.W.nsIn K mainGlobals "_law_pick" = some (some (.ref a__law_pick)))
    (l__law_pick : K.lookup a__law_pick = some ⟨oc__law_pick, od__law_pick, .func (PySem.W.fnOf "_law_pick" "_law_pick" (defArgs s__law_pick) (defBody s__law_pick) (defScope s__law_pick) .none kV__law_pick dc__law_pick pm__law_pick an__law_pick cd__law_pick ct__law_pick), sl__law_pick⟩)
    (ci__law_pick : PySem.W.codeIn K cd__law_pick "_law_pick" = true)
    (k__law_pick : PySem.W.keepIn K (.ref a__law_pick) = true)
    (ga__law_refused : PySem.W.nsIn K mainGlobals "_law_refused" = some (some (.ref a__law_refused)))
    (l__law_refused : K.lookup a__law_refused = some ⟨oc__law_refused, od__law_refused, .func (PySem.W.fnOf "_law_refused" "_law_refused" (defArgs s__law_refused) (defBody s__law_refused) (defScope s__law_refused) .none kV__law_refused dc__law_refused pm__law_refused an__law_refused cd__law_refused ct__law_refused), sl__law_refused⟩)
    (ci__law_refused : PySem.W.codeIn K cd__law_refused "_law_refused" = true)
    (k__law_refused : PySem.W.keepIn K (.ref a__law_refused) = true)
    (ga__law_subsets : PySem.W.nsIn K mainGlobals "_law_subsets" = some (some (.ref a__law_subsets)))
    (l__law_subsets : K.lookup a__law_subsets = some ⟨oc__law_subsets, od__law_subsets, .func (PySem.W.fnOf "_law_subsets" "_law_subsets" (defArgs s__law_subsets) (defBody s__law_subsets) (defScope s__law_subsets) .none kV__law_subsets dc__law_subsets pm__law_subsets an__law_subsets cd__law_subsets ct__law_subsets), sl__law_subsets⟩)
    (ci__law_subsets : PySem.W.codeIn K cd__law_subsets "_law_subsets" = true)
    (k__law_subsets : PySem.W.keepIn K (.ref a__law_subsets) = true)
    (ga__law_explains : PySem.W.nsIn K mainGlobals "_law_explains" = some (some (.ref a__law_explains)))
    (l__law_explains : K.lookup a__law_explains = some ⟨oc__law_explains, od__law_explains, .func (PySem.W.fnOf "_law_explains" "_law_explains" (defArgs s__law_explains) (defBody s__law_explains) (defScope s__law_explains) .none kV__law_explains dc__law_explains pm__law_explains an__law_explains cd__law_explains ct__law_explains), sl__law_explains⟩)
    (ci__law_explains : PySem.W.codeIn K cd__law_explains "_law_explains" = true)
    (k__law_explains : PySem.W.keepIn K (.ref a__law_explains) = true)
    (ga__law_refuses : PySem.W.nsIn K mainGlobals "_law_refuses" = some (some (.ref a__law_refuses)))
    (l__law_refuses : K.lookup a__law_refuses = some ⟨oc__law_refuses, od__law_refuses, .func (PySem.W.fnOf "_law_refuses" "_law_refuses" (defArgs s__law_refuses) (defBody s__law_refuses) (defScope s__law_refuses) .none kV__law_refuses dc__law_refuses pm__law_refuses an__law_refuses (.ref c__law_refuses) ct__law_refuses), sl__law_refuses⟩)
    (ci__law_refuses : PySem.W.codeIn K (.ref c__law_refuses) "_law_refuses" = true)
    (k__law_refuses : PySem.W.keepIn K (.ref a__law_refuses) = true)
    (lc__law_refuses : K.lookup c__law_refuses = some ⟨oq__law_refuses, oe__law_refuses, .fields vs__law_refuses, os__law_refuses⟩)
    (pc__law_refuses : vs__law_refuses[11]? = some (.ref p__law_refuses))
    (hd__law_refuses : PySem.W.codeHdIn K c__law_refuses p__law_refuses = true)
    (np__law_refuses : K.lookup p__law_refuses = none)
    (hp__law_refuses : h.get? p__law_refuses = some { cls := .none, data := .fields #[] })
    (ga__law_right : PySem.W.nsIn K mainGlobals "_law_right" = some (some (.ref a__law_right)))
    (l__law_right : K.lookup a__law_right = some ⟨oc__law_right, od__law_right, .func (PySem.W.fnOf "_law_right" "_law_right" (defArgs s__law_right) (defBody s__law_right) (defScope s__law_right) .none kV__law_right dc__law_right pm__law_right an__law_right cd__law_right ct__law_right), sl__law_right⟩)
    (ci__law_right : PySem.W.codeIn K cd__law_right "_law_right" = true)
    (k__law_right : PySem.W.keepIn K (.ref a__law_right) = true)
    (ga_law : PySem.W.nsIn K mainGlobals "law" = some (some (.ref a_law)))
    (l_law : K.lookup a_law = some ⟨oc_law, od_law, .func (PySem.W.fnOf "law" "law" (defArgs s_law) (defBody s_law) (defScope s_law) .none kV_law dc_law pm_law an_law cd_law ct_law), sl_law⟩)
    (ci_law : PySem.W.codeIn K cd_law "law" = true)
    (k_law : PySem.W.keepIn K (.ref a_law) = true)
    (cc_MOST_STREET : PySem.W.nsIn K mainGlobals "MOST_STREET" = some (some v_MOST_STREET))
    (cr_MOST_STREET : RelV (.int 11) v_MOST_STREET)
    (cc_MOST_CALLERS : PySem.W.nsIn K mainGlobals "MOST_CALLERS" = some (some v_MOST_CALLERS))
    (cr_MOST_CALLERS : RelV (.int 20) v_MOST_CALLERS)
    (cc_MOST_SEEN : PySem.W.nsIn K mainGlobals "MOST_SEEN" = some (some v_MOST_SEEN))
    (cr_MOST_SEEN : RelV (.int 10) v_MOST_SEEN)
    (dif : [p__law_refuses].Nodup) :
    LawAtS l w K (L2.CX P w) 11 63 "script" mg fa h := by
  subst hP
  have e := hfa.symm.trans (PySem.W.mg_of X G ga_law)
  have e2 : a_law = fa := by cases e; rfl
  subst e2
  have F_is_integer := fun_mk (st := s_is_integer) l_is_integer ci_is_integer k_is_integer
  have F_is_in := fun_mk (st := s_is_in) l_is_in ci_is_in k_is_in
  have F_is_tuple_of := fun_mk (st := s_is_tuple_of) l_is_tuple_of ci_is_tuple_of k_is_tuple_of
  have F_are_at_most := fun_mk (st := s_are_at_most) l_are_at_most ci_are_at_most k_are_at_most
  have F_is_ascending := fun_mk (st := s_is_ascending) l_is_ascending ci_is_ascending k_is_ascending
  have F_demand := fun_mk (st := s_demand) l_demand ci_demand k_demand
  have F_choices_of := fun_mk (st := s_choices_of) l_choices_of ci_choices_of k_choices_of
  have F_are_seen := fun_mk (st := s_are_seen) l_are_seen ci_are_seen k_are_seen
  have F_are_callers := fun_mk (st := s_are_callers) l_are_callers ci_are_callers k_are_callers
  have F_explains := fun_mk (st := s_explains) l_explains ci_explains k_explains
  have F_blamed_of := fun_mk (st := s_blamed_of) l_blamed_of ci_blamed_of k_blamed_of
  have F_blamed := fun_mk (st := s_blamed) l_blamed ci_blamed k_blamed
  have F_surely := fun_mk (st := s_surely) l_surely ci_surely k_surely
  have F_possibly := fun_mk (st := s_possibly) l_possibly ci_possibly k_possibly
  have F_least_blamed := fun_mk (st := s_least_blamed) l_least_blamed ci_least_blamed k_least_blamed
  have F__law_dice := fun_mk (st := s__law_dice) l__law_dice ci__law_dice k__law_dice
  have F__law_roll := fun_mk (st := s__law_roll) l__law_roll ci__law_roll k__law_roll
  have F__law_pick := fun_mk (st := s__law_pick) l__law_pick ci__law_pick k__law_pick
  have F__law_refused := fun_mk (st := s__law_refused) l__law_refused ci__law_refused k__law_refused
  have F__law_subsets := fun_mk (st := s__law_subsets) l__law_subsets ci__law_subsets k__law_subsets
  have F__law_explains := fun_mk (st := s__law_explains) l__law_explains ci__law_explains k__law_explains
  have F__law_refuses := funC_mk (st := s__law_refuses) l__law_refuses ci__law_refuses k__law_refuses
  have F__law_right := fun_mk (st := s__law_right) l__law_right ci__law_right k__law_right
  have F_law := fun_mk (st := s_law) l_law ci_law k_law
  have T : Tx l.prog K mg { C := fun x => if x = "BadArgument" then C_BadArgument else 0, I_BadArgument := f_BadArgument, a_is_integer := a_is_integer, a_is_in := a_is_in, a_is_tuple_of := a_is_tuple_of, a_are_at_most := a_are_at_most, a_is_ascending := a_is_ascending, a_demand := a_demand, a_choices_of := a_choices_of, a_are_seen := a_are_seen, a_are_callers := a_are_callers, a_explains := a_explains, a_blamed_of := a_blamed_of, a_blamed := a_blamed, a_surely := a_surely, a_possibly := a_possibly, a_least_blamed := a_least_blamed, a__law_dice := a__law_dice, a__law_roll := a__law_roll, a__law_pick := a__law_pick, a__law_refused := a__law_refused, a__law_subsets := a__law_subsets, a__law_explains := a__law_explains, a__law_refuses := a__law_refuses, a__law_right := a__law_right, a_law := a_law, fd_is_integer := _, fd_is_in := _, fd_is_tuple_of := _, fd_are_at_most := _, fd_is_ascending := _, fd_demand := _, fd_choices_of := _, fd_are_seen := _, fd_are_callers := _, fd_explains := _, fd_blamed_of := _, fd_blamed := _, fd_surely := _, fd_possibly := _, fd_least_blamed := _, fd__law_dice := _, fd__law_roll := _, fd__law_pick := _, fd__law_refused := _, fd__law_subsets := _, fd__law_explains := _, fd__law_refuses := _, fd__law_right := _, fd_law := _, c__law_refuses := c__law_refuses, p__law_refuses := p__law_refuses, v_MOST_STREET := v_MOST_STREET, v_MOST_CALLERS := v_MOST_CALLERS, v_MOST_SEEN := v_MOST_SEEN } := {
    x_BadArgument := { fo := BX.flName, gC := PySem.W.mg_of X G gC_BadArgument, sup := sup, any := any, top := tsup, cls := ⟨_, _, _, _, _, _, _, _, _, _, _, _, _, _, _, cl_BadArgument, rf_BadArgument⟩, sa := sa_BadArgument, xf := ⟨ga_BadArgument, gg_BadArgument, ex_BadArgument, hd_BadArgument⟩, noN := no_BadArgument, iC := iC_BadArgument, tC := tC_BadArgument, kC := kC_BadArgument, tyC := ty_BadArgument, sup2 := su_BadArgument, sVE := sV_BadArgument, sCC := mC_BadArgument, fn := ⟨_, _, _, _, _, _, _, _, _, _, _, _, _, _, _, _, _, _, _, _, _, _, _, _, _, _, _, _, _, _, _, l_BadArgument, c_BadArgument, d_BadArgument, e_BadArgument, ff_BadArgument, cc__BadArgument, ln_BadArgument⟩ }
    te_BadArgument := exm_self ex_BadArgument isC_BadArgument ty_BadArgument sC_BadArgument
    n_abs := PySem.W.mg_none_of X G n_abs
    n_all := PySem.W.mg_none_of X G n_all
    n_any := PySem.W.mg_none_of X G n_any
    n_bool := PySem.W.mg_none_of X G n_bool
    n_int := PySem.W.mg_none_of X G n_int
    n_isinstance := PySem.W.mg_none_of X G n_isinstance
    n_len := PySem.W.mg_none_of X G n_len
    n_list := PySem.W.mg_none_of X G n_list
    n_max := PySem.W.mg_none_of X G n_max
    n_min := PySem.W.mg_none_of X G n_min
    n_range := PySem.W.mg_none_of X G n_range
    n_reversed := PySem.W.mg_none_of X G n_reversed
    n_set := PySem.W.mg_none_of X G n_set
    n_sorted := PySem.W.mg_none_of X G n_sorted
    n_tuple := PySem.W.mg_none_of X G n_tuple
    n_zip := PySem.W.mg_none_of X G n_zip
    g_is_integer := PySem.W.mg_of X G ga_is_integer
    F_is_integer := F_is_integer
    b_is_integer := F_is_integer.binds fun _ _ _ _ _ _ us hl => match us, hl with | [_], _ => rfl
    g_is_in := PySem.W.mg_of X G ga_is_in
    F_is_in := F_is_in
    b_is_in := F_is_in.binds fun _ _ _ _ _ _ us hl => match us, hl with | [_, _, _], _ => rfl
    g_is_tuple_of := PySem.W.mg_of X G ga_is_tuple_of
    F_is_tuple_of := F_is_tuple_of
    b_is_tuple_of := F_is_tuple_of.binds fun _ _ _ _ _ _ us hl => match us, hl with | [_, _], _ => rfl
    g_are_at_most := PySem.W.mg_of X G ga_are_at_most
    F_are_at_most := F_are_at_most
    b_are_at_most := F_are_at_most.binds fun _ _ _ _ _ _ us hl => match us, hl with | [_, _], _ => rfl
    g_is_ascending := PySem.W.mg_of X G ga_is_ascending
    F_is_ascending := F_is_ascending
    b_is_ascending := F_is_ascending.binds fun _ _ _ _ _ _ us hl => match us, hl with | [_], _ => rfl
    g_demand := PySem.W.mg_of X G ga_demand
    F_demand := F_demand
    b_demand := F_demand.binds fun _ _ _ _ _ _ us hl => match us, hl with | [_, _], _ => rfl
    g_choices_of := PySem.W.mg_of X G ga_choices_of
    F_choices_of := F_choices_of
    b_choices_of := F_choices_of.binds fun _ _ _ _ _ _ us hl => match us, hl with | [_, _], _ => rfl
    g_are_seen := PySem.W.mg_of X G ga_are_seen
    F_are_seen := F_are_seen
    b_are_seen := F_are_seen.binds fun _ _ _ _ _ _ us hl => match us, hl with | [_], _ => rfl
    g_are_callers := PySem.W.mg_of X G ga_are_callers
    F_are_callers := F_are_callers
    b_are_callers := F_are_callers.binds fun _ _ _ _ _ _ us hl => match us, hl with | [_], _ => rfl
    g_explains := PySem.W.mg_of X G ga_explains
    F_explains := F_explains
    b_explains := F_explains.binds fun _ _ _ _ _ _ us hl => match us, hl with | [_, _], _ => rfl
    g_blamed_of := PySem.W.mg_of X G ga_blamed_of
    F_blamed_of := F_blamed_of
    b_blamed_of := F_blamed_of.binds fun _ _ _ _ _ _ us hl => match us, hl with | [_, _], _ => rfl
    g_blamed := PySem.W.mg_of X G ga_blamed
    F_blamed := F_blamed
    b_blamed := F_blamed.binds fun _ _ _ _ _ _ us hl => match us, hl with | [_, _], _ => rfl
    g_surely := PySem.W.mg_of X G ga_surely
    F_surely := F_surely
    b_surely := F_surely.binds fun _ _ _ _ _ _ us hl => match us, hl with | [_, _], _ => rfl
    g_possibly := PySem.W.mg_of X G ga_possibly
    F_possibly := F_possibly
    b_possibly := F_possibly.binds fun _ _ _ _ _ _ us hl => match us, hl with | [_, _], _ => rfl
    g_least_blamed := PySem.W.mg_of X G ga_least_blamed
    F_least_blamed := F_least_blamed
    b_least_blamed := F_least_blamed.binds fun _ _ _ _ _ _ us hl => match us, hl with | [_], _ => rfl
    g__law_dice := PySem.W.mg_of X G ga__law_dice
    F__law_dice := F__law_dice
    b__law_dice := F__law_dice.binds fun _ _ _ _ _ _ us hl => match us, hl with | [_, _], _ => rfl
    g__law_roll := PySem.W.mg_of X G ga__law_roll
    F__law_roll := F__law_roll
    b__law_roll := F__law_roll.binds fun _ _ _ _ _ _ us hl => match us, hl with | [_, _], _ => rfl
    g__law_pick := PySem.W.mg_of X G ga__law_pick
    F__law_pick := F__law_pick
    b__law_pick := F__law_pick.binds fun _ _ _ _ _ _ us hl => match us, hl with | [_, _], _ => rfl
    g__law_refused := PySem.W.mg_of X G ga__law_refused
    F__law_refused := F__law_refused
    b__law_refused := F__law_refused.binds fun _ _ _ _ _ _ us hl => match us, hl with | [_], _ => rfl
    g__law_subsets := PySem.W.mg_of X G ga__law_subsets
    F__law_subsets := F__law_subsets
    b__law_subsets := F__law_subsets.binds fun _ _ _ _ _ _ us hl => match us, hl with | [_, _], _ => rfl
    g__law_explains := PySem.W.mg_of X G ga__law_explains
    F__law_explains := F__law_explains
    b__law_explains := F__law_explains.binds fun _ _ _ _ _ _ us hl => match us, hl with | [_, _], _ => rfl
    g__law_refuses := PySem.W.mg_of X G ga__law_refuses
    F__law_refuses := F__law_refuses
    b__law_refuses := F__law_refuses.binds fun _ _ _ _ _ _ us hl => match us, hl with | [_], _ => rfl
    g__law_right := PySem.W.mg_of X G ga__law_right
    F__law_right := F__law_right
    b__law_right := F__law_right.binds fun _ _ _ _ _ _ us hl => match us, hl with | [_], _ => rfl
    g_law := PySem.W.mg_of X G ga_law
    F_law := F_law
    b_law := F_law.binds fun _ _ _ _ _ _ us hl => match us, hl with | [_], _ => rfl
    kw_blamed_0_most_callers := DL.Fun.kwb F_blamed (fun _ _ _ _ _ _ us ws h1 h2 => match us, ws, h1, h2 with | [], [_, _], _, _ => rfl) (by decide) (by decide)
    kw_surely_0_most_callers := DL.Fun.kwb F_surely (fun _ _ _ _ _ _ us ws h1 h2 => match us, ws, h1, h2 with | [], [_, _], _, _ => rfl) (by decide) (by decide)
    kw_possibly_0_most_callers := DL.Fun.kwb F_possibly (fun _ _ _ _ _ _ us ws h1 h2 => match us, ws, h1, h2 with | [], [_, _], _, _ => rfl) (by decide) (by decide)
    kw_least_blamed_0_callers := DL.Fun.kwb F_least_blamed (fun _ _ _ _ _ _ us ws h1 h2 => match us, ws, h1, h2 with | [], [_], _, _ => rfl) (by decide) (by decide)
    c_MOST_STREET := PySem.W.mg_of X G cc_MOST_STREET
    r_MOST_STREET := cr_MOST_STREET
    c_MOST_CALLERS := PySem.W.mg_of X G cc_MOST_CALLERS
    r_MOST_CALLERS := cr_MOST_CALLERS
    c_MOST_SEEN := PySem.W.mg_of X G cc_MOST_SEEN
    r_MOST_SEEN := cr_MOST_SEEN
  }
  refine law_at (K := K) (R := R_law K _ _) (ta := _) (cs := [(c__law_refuses, p__law_refuses)]) ?hT ?nT ?hC ?hb ?hcs (fun ns hn => .mk hn) fun base hb hg TB => ok_law (w := w) (base := base) T ?hTB
  case hb => exact fun _ _ => .of_eq rfl
  case hT => simp only [List.forall_mem_cons]; exact ⟨hp__law_refuses, fun _ z => nomatch z⟩
  case nT => simp only [List.forall_mem_cons]; exact ⟨np__law_refuses, fun _ z => nomatch z⟩
  case hC => simp only [List.forall_mem_cons]; exact ⟨PySem.W.codeHd_of_K X hd__law_refuses, fun _ z => nomatch z⟩
  case hcs => simp only [Ad.T, List.forall_mem_cons]; exact ⟨⟨c__law_refuses, by simp⟩, fun _ z => nomatch z⟩
  case hTB =>
    simp only [List.forall_mem_cons] at TB
    obtain ⟨t__law_refuses, _⟩ := TB
    exact ⟨⟨t__law_refuses⟩, ⟨by simpa [Ad.T] using dif⟩⟩
end K19

open PySem PySem.W PyProof.Rows
set_option maxRecDepth 100000 in
set_option maxHeartbeats 0 in
theorem PySem.Challenge.cw_streetslit_k19_whole_callers_holds : PySem.Challenge.rw_streetslit_k19_whole_callers.Holds := by
  w_on; o_law; k_head; (case hw => w_witness2)
  k_fill
  refine LamX.walk_ofTs (l := PySem.Challenge.rw_streetslit_k19_whole_callers) (n := 63) (k := 11) (x := "script") (CX := fun w => L2.CX (PySem.Challenge.rw_streetslit_k19_whole_callers).prog w) rfl (by decide) rfl ⟨rfl, by decide, by decide⟩ (fun w h Y => PySem.W.km_in_of Y) ?F (fun w H s e s' z => DL.cx_no z)
  case F =>
    intro w mg fa h Y KX G hmg
    have hTs := PySem.W.km_tabs_of Y
    refine' K19.all_mk KX G hmg rfl ?gC_BadArgument ?cl_BadArgument ?rf_BadArgument ?sa_BadArgument ?ga_BadArgument ?gg_BadArgument ?ex_BadArgument ?hd_BadArgument ?no_BadArgument ?iC_BadArgument ?tC_BadArgument ?kC_BadArgument ?ty_BadArgument ?isC_BadArgument ?su_BadArgument ?sV_BadArgument ?sC_BadArgument ?mC_BadArgument ?l_BadArgument ?c_BadArgument ?d_BadArgument ?e_BadArgument ?ff_BadArgument ?cc__BadArgument ?ln_BadArgument ?sup ?any ?tsup ?n_abs ?n_all ?n_any ?n_bool ?n_int ?n_isinstance ?n_len ?n_list ?n_max ?n_min ?n_range ?n_reversed ?n_set ?n_sorted ?n_tuple ?n_zip ?ga_is_integer ?l_is_integer ?ci_is_integer ?k_is_integer ?ga_is_in ?l_is_in ?ci_is_in ?k_is_in ?ga_is_tuple_of ?l_is_tuple_of ?ci_is_tuple_of ?k_is_tuple_of ?ga_are_at_most ?l_are_at_most ?ci_are_at_most ?k_are_at_most ?ga_is_ascending ?l_is_ascending ?ci_is_ascending ?k_is_ascending ?ga_demand ?l_demand ?ci_demand ?k_demand ?ga_choices_of ?l_choices_of ?ci_choices_of ?k_choices_of ?ga_are_seen ?l_are_seen ?ci_are_seen ?k_are_seen ?ga_are_callers ?l_are_callers ?ci_are_callers ?k_are_callers ?ga_explains ?l_explains ?ci_explains ?k_explains ?ga_blamed_of ?l_blamed_of ?ci_blamed_of ?k_blamed_of ?ga_blamed ?l_blamed ?ci_blamed ?k_blamed ?ga_surely ?l_surely ?ci_surely ?k_surely ?ga_possibly ?l_possibly ?ci_possibly ?k_possibly ?ga_least_blamed ?l_least_blamed ?ci_least_blamed ?k_least_blamed ?ga__law_dice ?l__law_dice ?ci__law_dice ?k__law_dice ?ga__law_roll ?l__law_roll ?ci__law_roll ?k__law_roll ?ga__law_pick ?l__law_pick ?ci__law_pick ?k__law_pick ?ga__law_refused ?l__law_refused ?ci__law_refused ?k__law_refused ?ga__law_subsets ?l__law_subsets ?ci__law_subsets ?k__law_subsets ?ga__law_explains ?l__law_explains ?ci__law_explains ?k__law_explains ?ga__law_refuses ?l__law_refuses ?ci__law_refuses ?k__law_refuses ?lc__law_refuses ?pc__law_refuses ?hd__law_refuses ?np__law_refuses ?hp__law_refuses ?ga__law_right ?l__law_right ?ci__law_right ?k__law_right ?ga_law ?l_law ?ci_law ?k_law ?cc_MOST_STREET ?cr_MOST_STREET ?cc_MOST_CALLERS ?cr_MOST_CALLERS ?cc_MOST_SEEN ?cr_MOST_SEEN ?dif
    (case gC_BadArgument => first | k_is | rfl)
    (case cl_BadArgument => first | k_is | rfl)
    (case rf_BadArgument => rfl)
    (case sa_BadArgument => first | k_is | rfl)
    (case ga_BadArgument => first | k_is | rfl)
    (case gg_BadArgument => first | k_is | rfl)
    (case ex_BadArgument => first | k_is | rfl)
    (case hd_BadArgument => first | k_is | rfl)
    (case no_BadArgument => first | k_is | rfl)
    (case iC_BadArgument => first | k_is | rfl)
    (case tC_BadArgument => first | k_is | rfl)
    (case kC_BadArgument => first | k_is | rfl)
    (case ty_BadArgument => first | k_is | rfl)
    (case isC_BadArgument => first | k_is | rfl)
    (case su_BadArgument => kernel_rfl)
    (case sV_BadArgument => first | k_is | rfl)
    (case sC_BadArgument => first | k_is | rfl)
    (case mC_BadArgument => first | k_is | rfl)
    (case l_BadArgument => first | k_is | rfl)
    (case c_BadArgument => first | k_is | rfl)
    (case d_BadArgument => first | k_is | rfl)
    (case e_BadArgument => rfl)
    (case ff_BadArgument => first | rfl | decide +kernel)
    (case cc__BadArgument => first | k_is | rfl)
    (case ln_BadArgument => first | rfl | decide +kernel)
    (case sup => first | k_is | rfl)
    (case any => first | k_is | rfl)
    (case tsup => first | rfl | decide +kernel | kernel_rfl)
    (case n_abs => first | k_is | rfl)
    (case n_all => first | k_is | rfl)
    (case n_any => first | k_is | rfl)
    (case n_bool => first | k_is | rfl)
    (case n_int => first | k_is | rfl)
    (case n_isinstance => first | k_is | rfl)
    (case n_len => first | k_is | rfl)
    (case n_list => first | k_is | rfl)
    (case n_max => first | k_is | rfl)
    (case n_min => first | k_is | rfl)
    (case n_range => first | k_is | rfl)
    (case n_reversed => first | k_is | rfl)
    (case n_set => first | k_is | rfl)
    (case n_sorted => first | k_is | rfl)
    (case n_tuple => first | k_is | rfl)
    (case n_zip => first | k_is | rfl)
    (case ga_is_integer => first | k_is | rfl)
    (case l_is_integer => first | k_is | rfl)
    (case ci_is_integer => first | k_is | rfl)
    (case k_is_integer => first | k_is | rfl)
    (case ga_is_in => first | k_is | rfl)
    (case l_is_in => first | k_is | rfl)
    (case ci_is_in => first | k_is | rfl)
    (case k_is_in => first | k_is | rfl)
    (case ga_is_tuple_of => first | k_is | rfl)
    (case l_is_tuple_of => first | k_is | rfl)
    (case ci_is_tuple_of => first | k_is | rfl)
    (case k_is_tuple_of => first | k_is | rfl)
    (case ga_are_at_most => first | k_is | rfl)
    (case l_are_at_most => first | k_is | rfl)
    (case ci_are_at_most => first | k_is | rfl)
    (case k_are_at_most => first | k_is | rfl)
    (case ga_is_ascending => first | k_is | rfl)
    (case l_is_ascending => first | k_is | rfl)
    (case ci_is_ascending => first | k_is | rfl)
    (case k_is_ascending => first | k_is | rfl)
    (case ga_demand => first | k_is | rfl)
    (case l_demand => first | k_is | rfl)
    (case ci_demand => first | k_is | rfl)
    (case k_demand => first | k_is | rfl)
    (case ga_choices_of => first | k_is | rfl)
    (case l_choices_of => first | k_is | rfl)
    (case ci_choices_of => first | k_is | rfl)
    (case k_choices_of => first | k_is | rfl)
    (case ga_are_seen => first | k_is | rfl)
    (case l_are_seen => first | k_is | rfl)
    (case ci_are_seen => first | k_is | rfl)
    (case k_are_seen => first | k_is | rfl)
    (case ga_are_callers => first | k_is | rfl)
    (case l_are_callers => first | k_is | rfl)
    (case ci_are_callers => first | k_is | rfl)
    (case k_are_callers => first | k_is | rfl)
    (case ga_explains => first | k_is | rfl)
    (case l_explains => first | k_is | rfl)
    (case ci_explains => first | k_is | rfl)
    (case k_explains => first | k_is | rfl)
    (case ga_blamed_of => first | k_is | rfl)
    (case l_blamed_of => first | k_is | rfl)
    (case ci_blamed_of => first | k_is | rfl)
    (case k_blamed_of => first | k_is | rfl)
    (case ga_blamed => first | k_is | rfl)
    (case l_blamed => first | k_is | rfl)
    (case ci_blamed => first | k_is | rfl)
    (case k_blamed => first | k_is | rfl)
    (case ga_surely => first | k_is | rfl)
    (case l_surely => first | k_is | rfl)
    (case ci_surely => first | k_is | rfl)
    (case k_surely => first | k_is | rfl)
    (case ga_possibly => first | k_is | rfl)
    (case l_possibly => first | k_is | rfl)
    (case ci_possibly => first | k_is | rfl)
    (case k_possibly => first | k_is | rfl)
    (case ga_least_blamed => first | k_is | rfl)
    (case l_least_blamed => first | k_is | rfl)
    (case ci_least_blamed => first | k_is | rfl)
    (case k_least_blamed => first | k_is | rfl)
    (case ga__law_dice => first | k_is | rfl)
    (case l__law_dice => first | k_is | rfl)
    (case ci__law_dice => first | k_is | rfl)
    (case k__law_dice => first | k_is | rfl)
    (case ga__law_roll => first | k_is | rfl)
    (case l__law_roll => first | k_is | rfl)
    (case ci__law_roll => first | k_is | rfl)
    (case k__law_roll => first | k_is | rfl)
    (case ga__law_pick => first | k_is | rfl)
    (case l__law_pick => first | k_is | rfl)
    (case ci__law_pick => first | k_is | rfl)
    (case k__law_pick => first | k_is | rfl)
    (case ga__law_refused => first | k_is | rfl)
    (case l__law_refused => first | k_is | rfl)
    (case ci__law_refused => first | k_is | rfl)
    (case k__law_refused => first | k_is | rfl)
    (case ga__law_subsets => first | k_is | rfl)
    (case l__law_subsets => first | k_is | rfl)
    (case ci__law_subsets => first | k_is | rfl)
    (case k__law_subsets => first | k_is | rfl)
    (case ga__law_explains => first | k_is | rfl)
    (case l__law_explains => first | k_is | rfl)
    (case ci__law_explains => first | k_is | rfl)
    (case k__law_explains => first | k_is | rfl)
    (case ga__law_refuses => first | k_is | rfl)
    (case l__law_refuses => first | k_is | rfl)
    (case ci__law_refuses => first | k_is | rfl)
    (case k__law_refuses => first | k_is | rfl)
    (case lc__law_refuses => first | k_is | rfl)
    (case pc__law_refuses => rfl)
    (case hd__law_refuses => kernel_rfl)
    (case np__law_refuses => kernel_rfl)
    (case hp__law_refuses => exact hTs _ (by decide))
    (case ga__law_right => first | k_is | rfl)
    (case l__law_right => first | k_is | rfl)
    (case ci__law_right => first | k_is | rfl)
    (case k__law_right => first | k_is | rfl)
    (case ga_law => first | k_is | rfl)
    (case l_law => first | k_is | rfl)
    (case ci_law => first | k_is | rfl)
    (case k_law => first | k_is | rfl)
    (case cc_MOST_STREET => first | k_is | rfl)
    (case cr_MOST_STREET => exact ⟨_, rfl⟩)
    (case cc_MOST_CALLERS => first | k_is | rfl)
    (case cr_MOST_CALLERS => exact ⟨_, rfl⟩)
    (case cc_MOST_SEEN => first | k_is | rfl)
    (case cr_MOST_SEEN => exact ⟨_, rfl⟩)
    (case dif => first | rfl | decide +kernel | kernel_rfl)
